import PyProof.Rows.All
import Wide.All
import OpenK.AllK
import Wide.FinOn
import PySem.Challenge.RW_meetonce_k02_net_refused
import HandS.ForMost
import HandS.Exc
import HandS.Deep
import HandS.Conv
import HandS.WordsExc
import HandS.CallSlots
import HandS.TupAny
import HandS.Strs
import HandS.Flow
import HandS.IsInst
import HandS.SortRule
import HandS.SortInts
import KE.KExcIs
import HandS.ExcField
import HandS.Zip
import HandS.Rev
import HandS.DictComp
import HandS.Style
import HandS.ExcInit
import HandS.ExcOwn
import HandS.FStr
import HandS.Defaults
import HandS.TryMany
import HandS.Base
import HandS.Call
import HandS.Ends
import HandS.More
import HandS.Words
import HandS.HeadEnd
import KE.KStateDown
import HandS.Head0
import HandS.Head1
import HandS.Head2
import HandS.HeadHook1
import HandS.HeadHook2
import Lean
import HandS.Codes
set_option Elab.async false
set_option linter.all false
set_option maxRecDepth 100000
/-! Mp0: a small language in plain Lean. Data without identity; expressions, statements, functions; their evaluation. -/
namespace Mp

/-- data: un is an unbound name; str by its codes; dct by its keys and values in order; ins an instance of the class numbered c, its fields by number; scr the script -/
inductive D where
  | un | non
  | bl (b : Bool) | int (i : Int) | str (s : List Nat)
  | tup (xs : List D) | lst (xs : List D)
  | dct (tk : Bool) (ks vs : List D)
  | ins (c : Nat) (fs : List Nat) (vs : List D)
  | scr (ns : List Int)
  deriving Inhabited

inductive R (a : Type) where
  | ok (x : a) | exc (d : D) | bad

def R.bind {a b : Type} : R a → (a → R b) → R b
  | .ok x, f => f x
  | .exc d, _ => .exc d
  | .bad, _ => .bad
@[simp] theorem R.bind_ok {a b : Type} (x : a) (f : a → R b) : (R.ok x).bind f = f x := rfl
@[simp] theorem R.bind_exc {a b : Type} (d : D) (f : a → R b) : (R.exc d).bind f = .exc d := rfl
@[simp] theorem R.bind_bad {a b : Type} (f : a → R b) : (R.bad : R a).bind f = .bad := rfl
/-- no exception may come -/
def R.nox {a : Type} : R a → R a
  | .ok x => .ok x
  | _ => .bad
@[simp] theorem R.nox_ok {a : Type} (x : a) : (R.ok x).nox = .ok x := rfl
def R.of {a : Type} : Option a → R a
  | some x => .ok x
  | none => .bad
@[simp] theorem R.of_some {a : Type} (x : a) : R.of (some x) = .ok x := rfl
@[simp] theorem R.of_none {a : Type} : (R.of none : R a) = .bad := rfl

abbrev LIM : Nat := 16777216

inductive Op where | add | sub | mul | fdiv | mod | pow | band | shl | shr
inductive Cp where | eq | ne | lt | le | gt | ge | mem | nmem
inductive Ty where | int | bool | str | list | tuple | cls (c : Nat) | verr
inductive Blt where | len | int | list | tuple | sum | min | max | sorted | abs | maxd
inductive Bm where | index | get | get2
inductive Mu where | app | put

/-! ### == -/
mutual
def eqD : D → D → Bool
  | .non, .non => true
  | .bl a, .bl b => a == b
  | .int a, .int b => a == b
  | .bl a, .int b => (if a then (1 : Int) else 0) == b
  | .int a, .bl b => a == (if b then (1 : Int) else 0)
  | .str a, .str b => a == b
  | .tup a, .tup b => eqL a b
  | .lst a, .lst b => eqL a b
  | _, _ => false
def eqL : List D → List D → Bool
  | [], [] => true
  | x :: xs, y :: ys => eqD x y && eqL xs ys
  | _, _ => false
end
/-- signs that == of data may meet -/
def strOk (s : List Nat) : Bool := s.all (· < 128) && decide (s.length ≤ LIM)
/-! data that == may meet: n levels at most -/
mutual
def okD : Nat → D → Bool
  | _, .non => true
  | _, .bl _ => true
  | _, .int _ => true
  | _, .str s => strOk s
  | n + 1, .tup xs => okL n xs
  | n + 1, .lst xs => okL n xs
  | _, _ => false
def okL : Nat → List D → Bool
  | _, [] => true
  | n, x :: xs => okD n x && okL n xs
end
def eqR (a b : D) : R Bool := if okD 12 a && okD 12 b then .ok (eqD a b) else .bad

/-! ### lists -/
def ixL (n : Nat) (i : Int) : Option Nat := if 0 ≤ i then (if i < n then some i.toNat else none) else if -(n : Int) ≤ i then some (i + n).toNat else none
def atL {a : Type} (xs : List a) (i : Int) : Option a := (ixL xs.length i).bind fun j => xs[j]?
/-- a slice's bound, where there is one -/
def toP : List D → R (Option Int)
  | [] => .ok none
  | [.int v] => .ok (some v)
  | _ => .bad
/-- .. as a place among n -/
def sx (n d : Nat) : Option Int → Nat
  | none => d
  | some v => if v < 0 then (v + n).toNat else min v.toNat n
def cutL {a : Type} (xs : List a) (i j : Nat) : List a := (xs.drop i).take (j - i)

/-! ### dicts -/
def dget : List D → List D → D → Option D
  | k :: ks, v :: vs, x => if eqD k x then some v else dget ks vs x
  | _, _, _ => none
/-- the values behind k = v is stored -/
def dputV : List D → List D → D → D → List D
  | k :: ks, v :: vs, x, y => if eqD k x then y :: vs else v :: dputV ks vs x y
  | _, _, _, y => [y]
def dputK : List D → D → List D
  | k :: ks, x => if eqD k x then k :: ks else k :: dputK ks x
  | [], x => [x]
/-- what may be a key -/
def keyOk : D → Bool
  | .int _ => true
  | .str _ => true
  | _ => false
/-- a key of a dict with tuple keys (true), with other keys -/
def keyD : Bool → D → Bool
  | true, .tup [] => false
  | true, .tup xs => xs.all keyOk
  | false, d => keyOk d
  | _, _ => false

/-! ### instances -/
def fget {a : Type} : List Nat → List a → Nat → Option a
  | f :: fs, v :: vs, g => if f = g then some v else fget fs vs g
  | _, _, _ => none
def fputV {a : Type} : List Nat → List a → Nat → a → List a
  | f :: fs, v :: vs, g, y => if f = g then y :: vs else v :: fputV fs vs g y
  | _, _, _, y => [y]
def fputF : List Nat → Nat → List Nat
  | f :: fs, g => if f = g then f :: fs else f :: fputF fs g
  | [], g => [g]

/-! ### sorting -/
def insB {a : Type} (le : a → a → Bool) (x : a) : List a → List a
  | [] => [x]
  | y :: ys => if le x y then x :: y :: ys else y :: insB le x ys
def isort {a : Type} (le : a → a → Bool) : List a → List a
  | [] => []
  | x :: xs => insB le x (isort le xs)
def leI (x y : Int) : Bool := decide (x ≤ y)
/-- x before or equal y, by the first place where they differ -/
def leL : List Int → List Int → Bool
  | [], _ => true
  | _ :: _, [] => false
  | x :: xs, y :: ys => if x = y then leL xs ys else decide (x < y)
def toI : D → Option Int
  | .int i => some i
  | _ => none
def toIs : List D → Option (List Int)
  | [] => some []
  | d :: ds => match toI d, toIs ds with
    | some i, some is => some (i :: is)
    | _, _ => none
def toT : D → Option (List Int)
  | .tup [] => none
  | .tup xs => toIs xs
  | _ => none
def toTs : List D → Option (List (List Int))
  | [] => some []
  | d :: ds => match toT d, toTs ds with
    | some i, some is => some (i :: is)
    | _, _ => none
def sortD (xs : List D) : R D := match toIs xs with
  | some ns => .ok (.lst ((isort leI ns).map .int))
  | none => match toTs xs with
    | some ts => .ok (.lst ((isort leL ts).map fun t => .tup (t.map .int)))
    | none => .bad

/-! ### operators -/
def mulOk (i j : Int) : Bool := (decide (-18446744073709551616 < i) && decide (i < 18446744073709551616)) || (decide (-18446744073709551616 < j) && decide (j < 18446744073709551616))
def opD : Op → D → D → R D
  | .add, .int i, .int j => .ok (.int (i + j))
  | .add, .lst a, .lst b => if a.length + b.length ≤ LIM then .ok (.lst (a ++ b)) else .bad
  | .add, .tup a, .tup b => if a.length + b.length ≤ LIM then .ok (.tup (a ++ b)) else .bad
  | .add, .str a, .str b => if a.length + b.length ≤ LIM then .ok (.str (a ++ b)) else .bad
  | .sub, .int i, .int j => .ok (.int (i - j))
  | .mul, .int i, .int j => if mulOk i j then .ok (.int (i * j)) else .bad
  | .mul, .lst a, .int k => if -9223372036854775808 ≤ k ∧ k < 9223372036854775808 ∧ a.length * k.toNat ≤ LIM then .ok (.lst (List.replicate k.toNat a).flatten) else .bad
  | .fdiv, .int i, .int j => if 0 < j ∧ j < 1073741824 then .ok (.int (i / j)) else .bad
  | .mod, .int i, .int j => if 0 < j then .ok (.int (i % j)) else .bad
  | .pow, .int i, .int j => if 0 ≤ j ∧ j ≤ 1000000 ∧ i.natAbs < 18446744073709551616 then .ok (.int (i ^ j.toNat)) else .bad
  | _, _, _ => .bad
def negD : D → R D
  | .int i => .ok (.int (-i))
  | _ => .bad
def flatD : D → Bool
  | .non => true
  | .bl _ => true
  | .int _ => true
  | .str _ => true
  | _ => false
def memL (x : D) : List D → Bool
  | [] => false
  | y :: ys => eqD y x || memL x ys
def memD (x : D) : D → R Bool
  | .lst xs => if okD 12 x && okL 12 xs then .ok (memL x xs) else .bad
  | .tup xs => if flatD x && xs.all flatD then .ok (memL x xs) else .bad
  | .dct tk ks vs => if keyD tk x then .ok (dget ks vs x).isSome else .bad
  | _ => .bad
def ltT : List Int → List Int → Bool
  | [], [] => false
  | [], _ :: _ => true
  | _ :: _, [] => false
  | x :: xs, y :: ys => if x = y then ltT xs ys else decide (x < y)
def cmpD : Cp → D → D → R Bool
  | .eq, a, b => eqR a b
  | .ne, a, b => (eqR a b).bind fun r => .ok (!r)
  | .lt, .int i, .int j => .ok (decide (i < j))
  | .le, .int i, .int j => .ok (decide (i ≤ j))
  | .gt, .int i, .int j => .ok (decide (j < i))
  | .ge, .int i, .int j => .ok (decide (j ≤ i))
  | .lt, .tup a, .tup b => match toIs a, toIs b with
    | some x, some y => .ok (ltT x y)
    | _, _ => .bad
  | .mem, a, b => memD a b
  | .nmem, a, b => (memD a b).bind fun r => .ok (!r)
  | _, _, _ => .bad
/-- of ints, in a chain -/
def cmpI : Cp → D → D → R Bool
  | .lt, .int i, .int j => .ok (decide (i < j))
  | .le, .int i, .int j => .ok (decide (i ≤ j))
  | _, _, _ => .bad
def truD : D → R Bool
  | .non => .ok false
  | .bl b => .ok b
  | .int i => .ok (i != 0)
  | .lst xs => .ok (!xs.isEmpty)
  | .tup xs => .ok (!xs.isEmpty)
  | _ => .bad
def isNon : D → R Bool
  | .un => .bad
  | .non => .ok true
  | _ => .ok false
def ixD : D → D → R D
  | .lst xs, .int i => R.of (atL xs i)
  | .tup xs, .int i => R.of (atL xs i)
  | .scr ns, .int i => R.of ((atL ns i).map .int)
  | .dct tk ks vs, k => if keyD tk k then R.of (dget ks vs k) else .bad
  | _, _ => .bad
def slD : D → Option Int → Option Int → R D
  | .lst xs, a, b => .ok (.lst (cutL xs (sx xs.length 0 a) (sx xs.length xs.length b)))
  | .tup xs, a, b => .ok (.tup (cutL xs (sx xs.length 0 a) (sx xs.length xs.length b)))
  | _, _, _ => .bad
def attD : D → Nat → R D
  | .ins _ fs vs, f => R.of (fget fs vs f)
  | _, _ => .bad
/-- what a loop walks -/
def items : D → R (List D)
  | .lst xs => .ok xs
  | .tup xs => .ok xs
  | _ => .bad
def rngL (a b : Int) : List D := (List.range (b - a).toNat).map fun (k : Nat) => D.int (a + (k : Int))
def rngD (a b : D) : R D := match a, b with
  | .int i, .int j => if -8388608 ≤ i ∧ i ≤ 8388608 ∧ -8388608 ≤ j ∧ j ≤ 8388608 then .ok (.lst (rngL i j)) else .bad
  | _, _ => .bad
def zipD (a b : D) : R D := match a, b with
  | .lst xs, .lst ys => .ok (.lst ((xs.zip ys).map fun p => .tup [p.1, p.2]))
  | .tup xs, .tup ys => .ok (.lst ((xs.zip ys).map fun p => .tup [p.1, p.2]))
  | _, _ => .bad
def enumFrom (k : Nat) : List D → List D
  | [] => []
  | x :: xs => .tup [.int k, x] :: enumFrom (k + 1) xs
def enumD : D → R D
  | .lst xs => .ok (.lst (enumFrom 0 xs))
  | _ => .bad
def revD : D → R D
  | .lst xs => .ok (.lst xs.reverse)
  | .tup xs => .ok (.lst xs.reverse)
  | _ => .bad
def maxI : Int → List Int → Int
  | m, [] => m
  | m, x :: xs => maxI (if m < x then x else m) xs
def minI : Int → List Int → Int
  | m, [] => m
  | m, x :: xs => minI (if x < m then x else m) xs
def bltD : Blt → List D → R D
  | .len, [.lst xs] => .ok (.int xs.length)
  | .len, [.tup xs] => .ok (.int xs.length)
  | .len, [.str s] => if s.length ≤ LIM then .ok (.int s.length) else .bad
  | .len, [.scr ns] => .ok (.int ns.length)
  | .int, [.int i] => .ok (.int i)
  | .int, [.bl b] => .ok (.int (if b then 1 else 0))
  | .list, [.lst xs] => .ok (.lst xs)
  | .list, [.tup xs] => .ok (.lst xs)
  | .tuple, [.lst xs] => .ok (.tup xs)
  | .tuple, [.tup xs] => .ok (.tup xs)
  | .sum, [.lst xs] => match toIs xs with
    | some ns => .ok (.int ns.sum)
    | none => .bad
  | .min, [.int i, .int j] => .ok (.int (if j < i then j else i))
  | .max, [.int i, .int j] => .ok (.int (if i < j then j else i))
  | .min, [.lst xs] => match toIs xs with
    | some (n :: ns) => .ok (.int (minI n ns))
    | _ => .bad
  | .min, [.tup xs] => match toIs xs with
    | some (n :: ns) => .ok (.int (minI n ns))
    | _ => .bad
  | .max, [.lst xs] => match toIs xs with
    | some (n :: ns) => .ok (.int (maxI n ns))
    | _ => .bad
  | .sorted, [.lst xs] => sortD xs
  | .sorted, [.tup xs] => match toTs xs with
    | some ts => .ok (.lst ((isort leL ts).map fun t => .tup (t.map .int)))
    | none => .bad
  | .abs, [.int i] => .ok (.int (if i < 0 then -i else i))
  | .maxd, [.lst xs, .int d] => match toIs xs with
    | some [] => .ok (.int d)
    | some (n :: ns) => .ok (.int (maxI n ns))
    | none => .bad
  | _, _ => .bad
def idxL (x : D) : List D → Nat → Option Nat
  | [], _ => none
  | y :: ys, j => if eqD y x then some j else idxL x ys (j + 1)
def bmD : Bm → D → List D → R D
  | .index, .lst xs, [x] => if okD 12 x && okL 12 xs then (match idxL x xs 0 with
    | some j => .ok (.int j)
    | none => .bad) else .bad
  | .index, .tup xs, [x] => if flatD x && xs.all flatD then (match idxL x xs 0 with
    | some j => .ok (.int j)
    | none => .bad) else .bad
  | .get, .dct tk ks vs, [k] => if keyD tk k then .ok ((dget ks vs k).getD .non) else .bad
  | .get2, .dct tk ks vs, [k, x] => if keyD tk k then .ok ((dget ks vs k).getD x) else .bad
  | _, _, _ => .bad
/-- what the method is asked of -/
def rcv : Bm → D → Bool
  | .index, .lst _ => true
  | .index, .tup (_ :: _) => true
  | .get, .dct _ _ _ => true
  | .get2, .dct _ _ _ => true
  | _, _ => false
def isCls (c : Nat) : D → Bool
  | .ins c' _ _ => c == c'
  | _ => false
def isTy : Ty → D → Bool
  | .int, .int _ => true
  | .int, .bl _ => true
  | .bool, .bl _ => true
  | .str, .str _ => true
  | .list, .lst _ => true
  | .tuple, .tup _ => true
  | .cls c, .ins c' _ _ => c == c'
  | _, _ => false
def isiD (d : D) (ts : List Ty) : R D := match d with
  | .un => .bad
  | .scr _ => .bad
  | .dct _ _ _ => .bad
  | d => .ok (.bl (ts.any fun t => isTy t d))

/-- an exception's class, as a handler or isinstance names it: 900 and above are the base classes -/
def hitX (k c : Nat) : Bool := decide (900 ≤ k) || k == c
/-- what a message tells: ints that are not too large -/
def fmOk : List Bool → List D → Bool
  | [], [] => true
  | true :: fm, .int i :: ds => decide (i.natAbs < 18446744073709551616) && fmOk fm ds
  | false :: fm, _ :: ds => fmOk fm ds
  | _, _ => false
/-- xs.pop(k) -/
def popL (xs : List D) (k : D) : Option (D × List D) := match k with
  | .int z => match ixL xs.length z with
    | some j => match xs[j]? with
      | some y => some (y, xs.eraseIdx j)
      | none => none
    | none => none
  | _ => none
def xatD : D → Nat → R D
  | .ins _ fs vs, f => R.of (fget fs vs f)
  | _, _ => .bad
def xisD : D → Nat → R D
  | .ins c _ _, k => .ok (.bl (hitX k c))
  | _, _ => .bad
def rvsD : D → R D
  | .lst xs => .ok (.lst xs.reverse)
  | _ => .bad

/-! ### the terms -/
mutual
inductive E where
  | nm (i : Nat) | cst (d : D)
  | bin (o : Op) (a b : E) | neg (a : E) | nt (a : E)
  | bop (an : Bool) (es : List E)
  | cmp (o : Cp) (a b : E) | chn (o1 o2 : Cp) (a b c : E) | isn (a : E) (neg : Bool)
  | ife (c a b : E)
  | tupE (es : List E) | lstE (es : List E) | dctE (tk : Bool)
  | ix (a b : E) | sl (a : E) (lo hi : List E) | att (a : E) (f : Nat)
  | call (f : F) (args : List E) | slf (args : List E)
  | meth (c : Nat) (f : F) (o : E) (args : List E) | mk (c : Nat) (f : F) (args : List E)
  | blt (b : Blt) (args : List E) | isi (a : E) (ts : List Ty)
  | bm (m : Bm) (o : E) (args : List E)
  | lc (elt : E) (tg : List Nat) (it : E) (cnd : List E)
  | dc (tk : Bool) (k v : E) (tg : List Nat) (it : E)
  | rng (a b : E) | zipE (a b : E) | enumE (a : E) | revE (a : E)
  /-- a name for an item of the list in slot b; its place there -/
  | nma (i b : Nat) | alj (i b : Nat)
  /-- a caught exception's field; isinstance of it -/
  | xat (i f : Nat) | xis (i k : Nat)
  /-- a[::-1] -/
  | rvs (a : E)
  | eqo (c : Nat) (f : F) (ng : Bool) (a b : E) | ino (c : Nat) (f : F) (ng : Bool) (a b : E)
inductive S where
  | set (i : Nat) (e : E) | sets (is : List Nat) (e : E)
  | app (i : Nat) (path : List E) (e : E) | put (i : Nat) (path : List E) (k e : E)
  | setF (f : Nat) (e : E)
  /-- slot i is from now on a name for an item of the list in slot b -/
  | ali (i b : Nat) (e : E)
  | exp (e : E)
  | ifs (c : E) (a b : List S)
  | for_ (tg : List Nat) (it : E) (body : List S)
  | whl (c : E) (body : List S)
  | ret (e : E) | retN
  | brk | cnt | pas
  /-- raise; the fields that the class's __init__ stores, what its message tells -/
  | rse (c : Nat) (fs : List Nat) (fm : List Bool) (es : List E)
  | tri (body : List S) (hs : List Hn)
  /-- i.append(j.pop(k)) -/
  | apop (i j : Nat) (k : E)
  /-- what is not reached -/
  | wall
/-- except k as i: suite (i not a slot where no name is given) -/
inductive Hn where
  | mk (k i : Nat) (suite : List S)
/-- np parameters, ns slots, the parameters' modes, the answer's mode, how deep it may call itself, whether it is an __init__ -/
inductive F where
  | mk (np ns : Nat) (md : List Nat) (rt : Nat) (rc : Nat) (ini : Bool) (body : List S)
end
def F.np : F → Nat | .mk n _ _ _ _ _ _ => n
def F.ns : F → Nat | .mk _ n _ _ _ _ _ => n
def F.md : F → List Nat | .mk _ _ n _ _ _ _ => n
def F.rt : F → Nat | .mk _ _ _ n _ _ _ => n
def F.rc : F → Nat | .mk _ _ _ _ n _ _ => n
def F.ini : F → Bool | .mk _ _ _ _ _ n _ => n
def F.body : F → List S | .mk _ _ _ _ _ _ n => n

/-- how a statement ends -/
inductive O where
  | nx (e : List D) | rt (d : D) (e : List D) | br (e : List D) | ct (e : List D) | ex (d : D) (e : List D) | bad

/-- to one name, or to several from a tuple -/
def setAll : List Nat → List D → List D → Option (List D)
  | [], [], env => some env
  | i :: is, d :: ds, env => setAll is ds (env.set i d)
  | _, _, _ => none
def setTg : List Nat → D → List D → Option (List D)
  | [i], d, env => some (env.set i d)
  | is, .tup ds, env => setAll is ds env
  | _, _, _ => none
def lcGo (f : D → R (Option D)) : List D → R (List D)
  | [] => .ok []
  | x :: xs => (f x).bind fun o => (lcGo f xs).bind fun ys => match o with
    | some y => .ok (y :: ys)
    | none => .ok ys
def dcGo (tk : Bool) (f : D → R (D × D)) : List D → List D → List D → R D
  | [], ks, vs => .ok (.dct tk ks vs)
  | x :: xs, ks, vs => (f x).bind fun p => if keyD tk p.1 && ks.length < LIM then dcGo tk f xs (dputK ks p.1) (dputV ks vs p.1 p.2) else .bad
def forGo (f : D → List D → O) : List D → List D → O
  | [], env => .nx env
  | x :: xs, env => match f x env with
    | .nx e => forGo f xs e
    | .ct e => forGo f xs e
    | .br e => .nx e
    | o => o
def whlGo (c : List D → R Bool) (f : List D → O) : Nat → List D → O
  | 0, _ => .bad
  | n + 1, env => match c env with
    | .ok true => match f env with
      | .nx e => whlGo c f n e
      | .ct e => whlGo c f n e
      | .br e => .nx e
      | o => o
    | .ok false => .nx env
    | .exc d => .ex d env
    | .bad => .bad
/-- the list at a path is changed -/
def muD (m : Mu) (args : List D) (d : D) : R D := match m, d, args with
  | .app, .lst xs, [y] => if xs.length < LIM then .ok (.lst (xs ++ [y])) else .bad
  | .put, .lst xs, [.int i, y] => match ixL xs.length i with
    | some j => .ok (.lst (xs.set j y))
    | none => .bad
  | .put, .dct tk ks vs, [k, y] => if keyD tk k && ks.length < LIM then .ok (.dct tk (dputK ks k) (dputV ks vs k y)) else .bad
  | _, _, _ => .bad
def muAt (m : Mu) (args : List D) : List D → D → R D
  | [], d => muD m args d
  | .int i :: p, .lst xs => match ixL xs.length i with
    | some j => match xs[j]? with
      | some x => (muAt m args p x).bind fun y => .ok (.lst (xs.set j y))
      | none => .bad
    | none => .bad
  | _, _ => .bad
/-- what stands at a path -/
def locD : List D → D → Option D
  | [], d => some d
  | .int i :: p, .lst xs => match ixL xs.length i with
    | some j => match xs[j]? with
      | some x => locD p x
      | none => none
    | none => none
  | _, _ => none
def R.toO (env : List D) (f : D → O) : R D → O
  | .ok d => f d
  | .exc d => .ex d env
  | .bad => .bad
@[simp] theorem R.toO_ok (env : List D) (f : D → O) (d : D) : (R.ok d).toO env f = f d := rfl
@[simp] theorem R.toO_exc (env : List D) (f : D → O) (d : D) : (R.exc d : R D).toO env f = .ex d env := rfl
@[simp] theorem R.toO_bad (env : List D) (f : D → O) : (R.bad : R D).toO env f = .bad := rfl
def R.toOl (env : List D) (f : List D → O) : R (List D) → O
  | .ok d => f d
  | .exc d => .ex d env
  | .bad => .bad
@[simp] theorem R.toOl_ok (env : List D) (f : List D → O) (d : List D) : (R.ok d).toOl env f = f d := rfl
@[simp] theorem R.toOl_exc (env : List D) (f : List D → O) (d : D) : (R.exc d : R (List D)).toOl env f = .ex d env := rfl
@[simp] theorem R.toOl_bad (env : List D) (f : List D → O) : (R.bad : R (List D)).toOl env f = .bad := rfl
def bopGo (an : Bool) : List (Unit → R D) → R D
  | [] => .bad
  | [x] => x ()
  | x :: xs => (x ()).bind fun d => (truD d).bind fun b => if b == an then bopGo an xs else .ok d
def getE (env : List D) (i : Nat) : R D := match env[i]? with
  | some .un => .bad
  | some d => .ok d
  | none => .bad
/-- a call's end -/
def endO (ini : Bool) : O → R D
  | .nx env => if ini then getE env 0 else .ok .non
  | .rt d _ => if ini then .bad else .ok d
  | .ex d _ => .exc d
  | _ => .bad

/-- a tuple that becomes a key is a display -/
def isTupE : E → Bool
  | .tupE _ => true
  | _ => false
def putOk (k : E) : D → Bool
  | .dct true _ _ => isTupE k
  | _ => true
abbrev Sf := List D → R D
mutual
def ev : E → Sf → List D → R D
  | .nm i, _, env => getE env i
  | .cst d, _, _ => .ok d
  | .bin o a b, s, env => (ev a s env).bind fun x => (ev b s env).bind fun y => opD o x y
  | .neg a, s, env => (ev a s env).bind negD
  | .nt a, s, env => (ev a s env).bind fun x => (truD x).bind fun b => .ok (.bl (!b))
  | .bop an es, s, env => evb an es s env
  | .cmp o a b, s, env => (ev a s env).bind fun x => (ev b s env).bind fun y => (cmpD o x y).bind fun b => .ok (.bl b)
  | .chn o1 o2 a b c, s, env => (ev a s env).bind fun x => (ev b s env).bind fun y => (cmpI o1 x y).bind fun r => if r then (ev c s env).bind fun z => (cmpI o2 y z).bind fun q => .ok (.bl q) else .ok (.bl false)
  | .isn a ng, s, env => (ev a s env).bind fun x => (isNon x).bind fun b => .ok (.bl (if ng then !b else b))
  | .ife c a b, s, env => (ev c s env).bind fun x => (truD x).bind fun r => if r then ev a s env else ev b s env
  | .tupE es, s, env => (evs es s env).bind fun ds => .ok (.tup ds)
  | .lstE es, s, env => (evs es s env).bind fun ds => .ok (.lst ds)
  | .dctE tk, _, _ => .ok (.dct tk [] [])
  | .ix a b, s, env => (ev a s env).bind fun x => (ev b s env).bind fun y => ixD x y
  | .sl a lo hi, s, env => (ev a s env).bind fun x => (evs lo s env).bind fun ls => (toP ls).bind fun y => (evs hi s env).bind fun hs => (toP hs).bind fun z => slD x y z
  | .att a f, s, env => (ev a s env).bind fun x => attD x f
  | .call f args, s, env => (evs args s env).bind fun ds => run f ds
  | .slf args, s, env => (evs args s env).bind fun ds => s ds
  | .meth c f o args, s, env => (ev o s env).bind fun x => if isCls c x then (evs args s env).bind fun ds => run f (x :: ds) else .bad
  | .mk c f args, s, env => (evs args s env).bind fun ds => run f (.ins c [] [] :: ds)
  | .blt b args, s, env => (evs args s env).bind fun ds => bltD b ds
  | .isi a ts, s, env => (ev a s env).bind fun x => isiD x ts
  | .bm m o args, s, env => (ev o s env).bind fun x => if rcv m x then (evs args s env).bind fun ds => bmD m x ds else .bad
  | .lc elt tg it cnd, s, env => (ev it s env).bind fun c => (items c).bind fun xs => (lcGo (fun x => match setTg tg x env with
      | some env' => (evc cnd s env').bind fun b => if b then (ev elt s env').bind fun y => .ok (some y) else .ok none
      | none => .bad) xs).nox.bind fun ys => if ys.length ≤ LIM then .ok (.lst ys) else .bad
  | .dc tk k v tg it, s, env => (ev it s env).bind fun c => (items c).bind fun xs => (dcGo tk (fun x => match setTg tg x env with
      | some env' => (ev k s env').bind fun y => (ev v s env').bind fun z => .ok (y, z)
      | none => .bad) xs [] []).nox
  | .rng a b, s, env => (ev a s env).bind fun x => (ev b s env).bind fun y => rngD x y
  | .zipE a b, s, env => (ev a s env).bind fun x => (ev b s env).bind fun y => zipD x y
  | .enumE a, s, env => (ev a s env).bind enumD
  | .revE a, s, env => (ev a s env).bind revD
  | .nma i b, _, env => match env[i]?, env[b]? with
    | some (.int j), some (.lst xs) => R.of (atL xs j)
    | _, _ => .bad
  | .alj i b, _, env => match env[i]?, env[b]? with
    | some (.int j), some (.lst _) => .ok (.int j)
    | _, _ => .bad
  | .xat i f, _, env => match env[i]? with
    | some d => xatD d f
    | none => .bad
  | .xis i k, _, env => match env[i]? with
    | some d => xisD d k
    | none => .bad
  | .rvs a, s, env => (ev a s env).bind rvsD
  | .eqo c f ng a b, s, env => (ev a s env).bind fun x => (ev b s env).bind fun y => match x with
    | .ins c' fs vs => if c = c' then (run f [.ins c' fs vs, y]).bind fun r => match r with
      | .bl q => .ok (.bl (if ng then !q else q))
      | _ => .bad else .bad
    | _ => .bad
  | .ino c f ng a b, s, env => (ev a s env).bind fun y => (ev b s env).bind fun x => match x with
    | .ins c' fs vs => if c = c' then (run f [.ins c' fs vs, y]).bind fun r => match r with
      | .bl q => .ok (.bl (if ng then !q else q))
      | _ => .bad else .bad
    | _ => .bad
def evs : List E → Sf → List D → R (List D)
  | [], _, _ => .ok []
  | e :: es, s, env => (ev e s env).bind fun d => (evs es s env).bind fun ds => .ok (d :: ds)
def evb : Bool → List E → Sf → List D → R D
  | _, [], _, _ => .bad
  | _, [e], s, env => ev e s env
  | an, e :: es, s, env => (ev e s env).bind fun d => (truD d).bind fun b => if b = an then evb an es s env else .ok d
def evc : List E → Sf → List D → R Bool
  | [], _, _ => .ok true
  | e :: es, s, env => (ev e s env).bind fun d => (truD d).bind fun b => if b then evc es s env else .ok false
def exec : S → Sf → List D → O
  | .set i e, s, env => (ev e s env).toO env fun d => .nx (env.set i d)
  | .sets is e, s, env => (ev e s env).toO env fun d => match setTg is d env with
    | some env' => .nx env'
    | none => .bad
  | .app i path e, s, env => (getE env i).toO env fun d => (evs path s env).toOl env fun ps => match locD ps d with
    | some (.lst _) => (ev e s env).toO env fun y => (muAt .app [y] ps d).toO env fun d' => .nx (env.set i d')
    | _ => .bad
  | .put i path k e, s, env => (ev e s env).toO env fun y => (getE env i).toO env fun d => (evs path s env).toOl env fun ps => match locD ps d with
    | some t => (ev k s env).toO env fun kk => if putOk k t then (muAt .put [kk, y] ps d).toO env fun d' => .nx (env.set i d') else .bad
    | none => .bad
  | .setF f e, s, env => (ev e s env).toO env fun d => match env[0]? with
    | some (D.ins c fs vs) => if fs.length < 900 then .nx (env.set 0 (.ins c (fputF fs f) (fputV fs vs f d))) else .bad
    | _ => .bad
  | .ali i b e, s, env => (getE env b).toO env fun d => (ev e s env).toO env fun k => match d, k with
    | .lst xs, .int z => match ixL xs.length z with
      | some j => .nx (env.set i (.int j))
      | none => .bad
    | _, _ => .bad
  | .exp e, s, env => (ev e s env).toO env fun _ => .nx env
  | .ifs c a b, s, env => ((ev c s env).bind fun x => (truD x).bind fun r => .ok (.bl r)).toO env fun r => match r with
    | .bl true => execs a s env
    | _ => execs b s env
  | .for_ tg it body, s, env => (ev it s env).toO env fun c => (items c).toOl env fun xs => forGo (fun x env => match setTg tg x env with
      | some env' => execs body s env'
      | none => .bad) xs env
  | .whl c body, s, env => whlGo (fun env => (ev c s env).bind truD) (fun env => execs body s env) 100000 env
  | .ret e, s, env => (ev e s env).toO env fun d => .rt d env
  | .retN, _, env => .rt .non env
  | .brk, _, env => .br env
  | .cnt, _, env => .ct env
  | .pas, _, env => .nx env
  | .wall, _, _ => .bad
  | .rse c fs fm es, s, env => (evs es s env).toOl env fun ds => if ds.length = fs.length ∧ fmOk fm ds = true then .ex (.ins c fs ds) env else .bad
  | .tri body hs, s, env => match execs body s env with
    | .ex d e => exech hs s d e
    | o => o
  | .apop i j k, s, env => (getE env i).toO env fun d => (getE env j).toO env fun c => match d, c with
    | .lst xs, .lst ys => (ev k s env).toO env fun z => match popL ys z with
      | some (y, ys') => if xs.length < LIM then .nx ((env.set j (.lst ys')).set i (.lst (xs ++ [y]))) else .bad
      | none => .bad
    | _, _ => .bad
def exech : List Hn → Sf → D → List D → O
  | [], _, d, env => .ex d env
  | h :: hs, s, d, env => match exec1 h s d env with
    | some o => o
    | none => exech hs s d env
def exec1 : Hn → Sf → D → List D → Option O
  | .mk k i suite, s, d, env => match xisD d k with
    | .ok (.bl true) => some (match execs suite s (env.set i d) with
      | .nx e => .nx (e.set i .un)
      | .rt v e => .rt v e
      | _ => .bad)
    | .ok (.bl false) => none
    | _ => some .bad
def execs : List S → Sf → List D → O
  | [], _, env => .nx env
  | t :: ts, s, env => match exec t s env with
    | .nx e => execs ts s e
    | o => o
/-- a call; a def that calls itself does so rc deep at most -/
def run : F → Sf
  | .mk np ns md rt rc ini body => Nat.rec (motive := fun _ => Sf) (fun args => if args.length = np then endO ini (execs body (fun _ => .bad) (args ++ List.replicate (ns - np) .un)) else .bad)
      (fun _ s args => if args.length = np then endO ini (execs body s (args ++ List.replicate (ns - np) .un)) else .bad) rc
end
end Mp

/-! Pl0: wishes about results; the rules by which a text in Mp is walked in plain Lean -/
namespace Mp

/-- r ends with Q, or in an exception with E -/
def V {a : Type} (r : R a) (Q : a → Prop) (E : D → Prop) : Prop := match r with
  | .ok x => Q x
  | .exc d => E d
  | .bad => False
/-- what comes after is not looked at before r is known -/
theorem V_congr {a : Type} {r r' : R a} {Q : a → Prop} {E : D → Prop} (h : r = r') : V r Q E = V r' Q E := by rw [h]
theorem V_ok {a : Type} {x : a} {Q : a → Prop} {E : D → Prop} : V (.ok x) Q E = Q x := rfl
theorem V_exc {a : Type} {x : D} {Q : a → Prop} {E : D → Prop} : V (.exc x : R a) Q E = E x := rfl
theorem V_bad {a : Type} {Q : a → Prop} {E : D → Prop} : V (.bad : R a) Q E = False := rfl
theorem V_bind {a b : Type} {r : R a} {f : a → R b} {Q : b → Prop} {E : D → Prop} : V (r.bind f) Q E = V r (fun x => V (f x) Q E) E := by cases r <;> rfl
theorem V_nox {a : Type} {r : R a} {Q : a → Prop} {E : D → Prop} : V r.nox Q E = V r Q (fun _ => False) := by cases r <;> rfl
theorem V_of {a : Type} {o : Option a} {Q : a → Prop} {E : D → Prop} : V (R.of o) Q E = ∃ x, o = some x ∧ Q x := by
  cases o with
  | none => simp [R.of, V]
  | some x => simp [R.of, V]
theorem V_ite {a : Type} {c : Prop} [Decidable c] {r q : R a} {Q : a → Prop} {E : D → Prop} : V (if c then r else q) Q E = ((c → V r Q E) ∧ (¬c → V q Q E)) := by
  by_cases h : c <;> simp [h]
theorem V_need {a : Type} {c : Prop} [Decidable c] {r : R a} {Q : a → Prop} {E : D → Prop} : V (if c then r else .bad) Q E = (c ∧ V r Q E) := by
  by_cases h : c <;> simp [h, V]
theorem V.mono {a : Type} {r : R a} {Q Q' : a → Prop} {E E' : D → Prop} (h : V r Q E) (q : ∀ x, Q x → Q' x) (e : ∀ d, E d → E' d) : V r Q' E' := by
  cases r with
  | ok x => exact q _ h
  | exc d => exact e _ h
  | bad => exact h
/-- from a known answer -/
theorem V.by {a : Type} {r : R a} {x : a} {Q : a → Prop} {E : D → Prop} (h : r = .ok x) (q : Q x) : V r Q E := by subst h; exact q
theorem V.imp {a : Type} {r : R a} {Q Q' : a → Prop} {E : D → Prop} (h : V r Q (fun _ => False)) (q : ∀ x, Q x → Q' x) : V r Q' E := h.mono q (fun _ z => z.elim)
theorem V.get {a : Type} {r : R a} {Q : a → Prop} (h : V r Q (fun _ => False)) : ∃ x, r = .ok x ∧ Q x := by
  cases r with
  | ok x => exact ⟨x, rfl, h⟩
  | exc d => exact h.elim
  | bad => exact h.elim

/-- how a statement may end -/
structure Po where
  nx : List D → Prop
  rt : D → Prop
  br : List D → Prop
  ct : List D → Prop
  ex : D → Prop
def VO (o : O) (P : Po) : Prop := match o with
  | .nx e => P.nx e
  | .rt d _ => P.rt d
  | .br e => P.br e
  | .ct e => P.ct e
  | .ex d _ => P.ex d
  | .bad => False
theorem VO_congr {o o' : O} {P : Po} (h : o = o') : VO o P = VO o' P := by rw [h]
theorem VO_nx {e : List D} {P : Po} : VO (.nx e) P = P.nx e := rfl
theorem VO_rt {d : D} {e : List D} {P : Po} : VO (.rt d e) P = P.rt d := rfl
theorem VO_br {e : List D} {P : Po} : VO (.br e) P = P.br e := rfl
theorem VO_ct {e : List D} {P : Po} : VO (.ct e) P = P.ct e := rfl
theorem VO_ite {c : Prop} [Decidable c] {r q : O} {P : Po} : VO (if c then r else q) P = ((c → VO r P) ∧ (¬c → VO q P)) := by
  by_cases h : c <;> simp [h]
theorem VO.mono {o : O} {P P' : Po} (h : VO o P) (h1 : ∀ e, P.nx e → P'.nx e) (h2 : ∀ e, P.rt e → P'.rt e) (h3 : ∀ e, P.br e → P'.br e) (h4 : ∀ e, P.ct e → P'.ct e) (h5 : ∀ e, P.ex e → P'.ex e) : VO o P' := by
  cases o with
  | nx e => exact h1 _ h
  | rt d e => exact h2 _ h
  | br e => exact h3 _ h
  | ct e => exact h4 _ h
  | ex d e => exact h5 _ h
  | bad => exact h
theorem VO_toO {r : R D} {env : List D} {f : D → O} {P : Po} : VO (r.toO env f) P = V r (fun d => VO (f d) P) P.ex := by cases r <;> rfl
theorem VO_toOl {r : R (List D)} {env : List D} {f : List D → O} {P : Po} : VO (r.toOl env f) P = V r (fun d => VO (f d) P) P.ex := by cases r <;> rfl

/-! ### expressions -/
section
variable {s : Sf} {env : List D} {E' : D → Prop} {Q : D → Prop}
theorem V_nm {i : Nat} : V (ev (.nm i) s env) Q E' = V (getE env i) Q E' := rfl
theorem V_cst {d : D} : V (ev (.cst d) s env) Q E' = Q d := rfl
theorem V_bin {o : Op} {a b : E} : V (ev (.bin o a b) s env) Q E' = V (ev a s env) (fun x => V (ev b s env) (fun y => V (opD o x y) Q E') E') E' := by simp only [ev, V_bind]
theorem V_neg {a : E} : V (ev (.neg a) s env) Q E' = V (ev a s env) (fun x => V (negD x) Q E') E' := by simp only [ev, V_bind]
theorem V_nt {a : E} : V (ev (.nt a) s env) Q E' = V (ev a s env) (fun x => V (truD x) (fun b => Q (.bl (!b))) E') E' := by simp only [ev, V_bind, V_ok]
theorem V_bop {an : Bool} {es : List E} : V (ev (.bop an es) s env) Q E' = V (evb an es s env) Q E' := by simp only [ev]
theorem V_evb1 {an : Bool} {e : E} : V (evb an [e] s env) Q E' = V (ev e s env) Q E' := by simp only [evb]
theorem V_evb {an : Bool} {e e' : E} {es : List E} : V (evb an (e :: e' :: es) s env) Q E' = V (ev e s env) (fun d => V (truD d) (fun b => if b = an then V (evb an (e' :: es) s env) Q E' else Q d) E') E' := by
  rw [evb, V_bind]
  · congr 1; funext d; rw [V_bind]; congr 1; funext b; split <;> rfl
  · simp
theorem V_cmp {o : Cp} {a b : E} : V (ev (.cmp o a b) s env) Q E' = V (ev a s env) (fun x => V (ev b s env) (fun y => V (cmpD o x y) (fun r => Q (.bl r)) E') E') E' := by simp only [ev, V_bind, V_ok]
theorem V_isn {a : E} {ng : Bool} : V (ev (.isn a ng) s env) Q E' = V (ev a s env) (fun x => V (isNon x) (fun b => Q (.bl (if ng then !b else b))) E') E' := by simp only [ev, V_bind, V_ok]
theorem V_ife {c a b : E} : V (ev (.ife c a b) s env) Q E' = V (ev c s env) (fun x => V (truD x) (fun r => if r = true then V (ev a s env) Q E' else V (ev b s env) Q E') E') E' := by
  simp only [ev, V_bind]; congr 1; funext x; congr 1; funext r; split <;> rfl
theorem V_chn {o1 o2 : Cp} {a b c : E} : V (ev (.chn o1 o2 a b c) s env) Q E' = V (ev a s env) (fun x => V (ev b s env) (fun y => V (cmpI o1 x y) (fun r => if r = true then V (ev c s env) (fun z => V (cmpI o2 y z) (fun q => Q (.bl q)) E') E' else Q (.bl false)) E') E') E' := by
  simp only [ev, V_bind]; congr 1; funext x; congr 1; funext y; congr 1; funext r; split <;> simp only [V_bind, V_ok]
theorem V_tupE {es : List E} : V (ev (.tupE es) s env) Q E' = V (evs es s env) (fun ds => Q (.tup ds)) E' := by simp only [ev, V_bind, V_ok]
theorem V_lstE {es : List E} : V (ev (.lstE es) s env) Q E' = V (evs es s env) (fun ds => Q (.lst ds)) E' := by simp only [ev, V_bind, V_ok]
theorem V_dctE {tk : Bool} : V (ev (.dctE tk) s env) Q E' = Q (.dct tk [] []) := rfl
theorem V_ix {a b : E} : V (ev (.ix a b) s env) Q E' = V (ev a s env) (fun x => V (ev b s env) (fun y => V (ixD x y) Q E') E') E' := by simp only [ev, V_bind]
theorem V_sl {a : E} {lo hi : List E} : V (ev (.sl a lo hi) s env) Q E' = V (ev a s env) (fun x => V (evs lo s env) (fun l => V (toP l) (fun y => V (evs hi s env) (fun h => V (toP h) (fun z => V (slD x y z) Q E') E') E') E') E') E' := by simp only [ev, V_bind]
theorem V_att {a : E} {f : Nat} : V (ev (.att a f) s env) Q E' = V (ev a s env) (fun x => V (attD x f) Q E') E' := by simp only [ev, V_bind]
theorem V_call {f : F} {es : List E} : V (ev (.call f es) s env) Q E' = V (evs es s env) (fun ds => V (run f ds) Q E') E' := by simp only [ev, V_bind]
theorem V_slf {es : List E} : V (ev (.slf es) s env) Q E' = V (evs es s env) (fun ds => V (s ds) Q E') E' := by simp only [ev, V_bind]
theorem V_meth {c : Nat} {f : F} {o : E} {es : List E} : V (ev (.meth c f o es) s env) Q E' = V (ev o s env) (fun x => isCls c x = true ∧ V (evs es s env) (fun ds => V (run f (x :: ds)) Q E') E') E' := by
  simp only [ev, V_bind]; congr 1; funext x; split
  · rename_i h; simp only [V_bind, h, true_and]
  · rename_i h; simp [h, V]
theorem V_mk {c : Nat} {f : F} {es : List E} : V (ev (.mk c f es) s env) Q E' = V (evs es s env) (fun ds => V (run f (.ins c [] [] :: ds)) Q E') E' := by simp only [ev, V_bind]
theorem V_blt {b : Blt} {es : List E} : V (ev (.blt b es) s env) Q E' = V (evs es s env) (fun ds => V (bltD b ds) Q E') E' := by simp only [ev, V_bind]
theorem V_isi {a : E} {ts : List Ty} : V (ev (.isi a ts) s env) Q E' = V (ev a s env) (fun x => V (isiD x ts) Q E') E' := by simp only [ev, V_bind]
theorem V_bm {m : Bm} {o : E} {es : List E} : V (ev (.bm m o es) s env) Q E' = V (ev o s env) (fun x => rcv m x = true ∧ V (evs es s env) (fun ds => V (bmD m x ds) Q E') E') E' := by
  simp only [ev, V_bind]; congr 1; funext x; split
  · rename_i h; simp only [V_bind, h, true_and]
  · rename_i h; simp [h, V]
theorem V_rng {a b : E} : V (ev (.rng a b) s env) Q E' = V (ev a s env) (fun x => V (ev b s env) (fun y => V (rngD x y) Q E') E') E' := by simp only [ev, V_bind]
theorem V_zipE {a b : E} : V (ev (.zipE a b) s env) Q E' = V (ev a s env) (fun x => V (ev b s env) (fun y => V (zipD x y) Q E') E') E' := by simp only [ev, V_bind]
theorem V_enumE {a : E} : V (ev (.enumE a) s env) Q E' = V (ev a s env) (fun x => V (enumD x) Q E') E' := by simp only [ev, V_bind]
theorem V_revE {a : E} : V (ev (.revE a) s env) Q E' = V (ev a s env) (fun x => V (revD x) Q E') E' := by simp only [ev, V_bind]
/-- one item of a comprehension -/
def lcF (elt : E) (tg : List Nat) (cnd : List E) (s : Sf) (env : List D) (x : D) : R (Option D) := match setTg tg x env with
  | some env' => (evc cnd s env').bind fun b => if b then (ev elt s env').bind fun y => .ok (some y) else .ok none
  | none => .bad
theorem V_xat {i f : Nat} : V (ev (.xat i f) s env) Q E' = V (R.of env[i]?) (fun d => V (xatD d f) Q E') E' := by
  simp only [ev]; cases env[i]? <;> rfl
theorem V_xis {i k : Nat} : V (ev (.xis i k) s env) Q E' = V (R.of env[i]?) (fun d => V (xisD d k) Q E') E' := by
  simp only [ev]; cases env[i]? <;> rfl
theorem V_rvs {a : E} : V (ev (.rvs a) s env) Q E' = V (ev a s env) (fun x => V (rvsD x) Q E') E' := by simp only [ev, V_bind]
theorem V_lc {elt : E} {tg : List Nat} {it : E} {cnd : List E} : V (ev (.lc elt tg it cnd) s env) Q E' = V (ev it s env) (fun c => V (items c) (fun xs => V (lcGo (lcF elt tg cnd s env) xs) (fun ys => ys.length ≤ LIM ∧ Q (.lst ys)) (fun _ => False)) E') E' := by
  simp only [ev, V_bind, V_nox]
  congr 1; funext c; congr 1; funext xs
  show V (lcGo (lcF elt tg cnd s env) xs) _ _ = _
  congr 1; funext ys; rw [V_need]; rfl
def dcF (k v : E) (tg : List Nat) (s : Sf) (env : List D) (x : D) : R (D × D) := match setTg tg x env with
  | some env' => (ev k s env').bind fun y => (ev v s env').bind fun z => .ok (y, z)
  | none => .bad
theorem V_dc {tk : Bool} {k v : E} {tg : List Nat} {it : E} : V (ev (.dc tk k v tg it) s env) Q E' = V (ev it s env) (fun c => V (items c) (fun xs => V (dcGo tk (dcF k v tg s env) xs [] []) Q (fun _ => False)) E') E' := by
  simp only [ev, V_bind, V_nox]
  rfl
variable {Q' : List D → Prop}
theorem V_evs0 : V (evs [] s env) Q' E' = Q' [] := rfl
theorem V_evs {e : E} {es : List E} : V (evs (e :: es) s env) Q' E' = V (ev e s env) (fun d => V (evs es s env) (fun ds => Q' (d :: ds)) E') E' := by simp only [evs, V_bind, V_ok]
variable {Qb : Bool → Prop}
theorem V_evc0 : V (evc [] s env) Qb E' = Qb true := rfl
theorem V_evc {e : E} {es : List E} : V (evc (e :: es) s env) Qb E' = V (ev e s env) (fun d => V (truD d) (fun b => if b = true then V (evc es s env) Qb E' else Qb false) E') E' := by
  simp only [evc, V_bind]; congr 1; funext d; congr 1; funext b; split <;> rfl
end

/-! ### statements -/
section
variable {s : Sf} {env : List D} {P : Po}
theorem VO_nil : VO (execs [] s env) P = P.nx env := rfl
theorem VO_cons {t : S} {ts : List S} : VO (execs (t :: ts) s env) P = VO (exec t s env) { P with nx := fun e => VO (execs ts s e) P } := by
  simp only [execs]
  cases exec t s env <;> rfl
theorem execs_app {a b : List S} {s : Sf} : ∀ {env : List D}, execs (a ++ b) s env = (match execs a s env with | .nx e => execs b s e | o => o) := by
  induction a with
  | nil => intro env; rfl
  | cons t a ih =>
    intro env
    simp only [List.cons_append, execs]
    cases exec t s env with
    | nx e => exact ih
    | rt d e => rfl
    | br e => rfl
    | ct e => rfl
    | ex d e => rfl
    | bad => rfl
/-- cut behind n statements -/
theorem VO_split {ts : List S} (n : Nat) (M : List D → Prop) (h1 : VO (execs (ts.take n) s env) { P with nx := M }) (h2 : ∀ e, M e → VO (execs (ts.drop n) s e) P) : VO (execs ts s env) P := by
  rw [← List.take_append_drop n ts, execs_app]
  revert h1
  cases execs (ts.take n) s env with
  | nx e => exact fun h => h2 e h
  | rt d e => exact id
  | br e => exact id
  | ct e => exact id
  | ex d e => exact id
  | bad => exact id
theorem VO_set {i : Nat} {e : E} : VO (exec (.set i e) s env) P = V (ev e s env) (fun d => P.nx (env.set i d)) P.ex := by simp only [exec, VO_toO, VO_nx]
theorem VO_sets {is : List Nat} {e : E} : VO (exec (.sets is e) s env) P = V (ev e s env) (fun d => ∃ env', setTg is d env = some env' ∧ P.nx env') P.ex := by
  simp only [exec, VO_toO]; congr 1; funext d
  cases setTg is d env with
  | none => simp [VO]
  | some x => simp [VO]
theorem VO_app {i : Nat} {p : List E} {e : E} : VO (exec (.app i p e) s env) P = V (getE env i) (fun d => V (evs p s env) (fun ps => ∃ xs, locD ps d = some (.lst xs) ∧ V (ev e s env) (fun y => V (muAt .app [y] ps d) (fun d' => P.nx (env.set i d')) P.ex) P.ex) P.ex) P.ex := by
  simp only [exec, VO_toO, VO_toOl]; congr 1; funext d; congr 1; funext ps
  split
  · rename_i h; simp [h, VO_toO, VO_nx]
  · rename_i h; simp only [VO, eq_iff_iff, false_iff]
    rintro ⟨xs, hx, _⟩; exact h xs hx
/-- the key is a display, where the dict's keys are tuples -/
def putG (k : E) (ps : List D) (d : D) : Bool := match locD ps d with
  | some t => putOk k t
  | none => true
theorem VO_put {i : Nat} {p : List E} {k e : E} : VO (exec (.put i p k e) s env) P = V (ev e s env) (fun y => V (getE env i) (fun d => V (evs p s env) (fun ps => (∃ x, locD ps d = some x) ∧ V (ev k s env) (fun kk => putG k ps d = true ∧ V (muAt .put [kk, y] ps d) (fun d' => P.nx (env.set i d')) P.ex) P.ex) P.ex) P.ex) P.ex := by
  simp only [exec, VO_toO, VO_toOl]; congr 1; funext y; congr 1; funext d; congr 1; funext ps
  split
  · rename_i t h
    rw [VO_toO]
    simp only [putG, h]
    have : (∃ x, some t = some x) = True := by simp
    rw [this, true_and]
    congr 1; funext kk
    by_cases q : putOk k t = true
    · simp [q, VO_toO, VO_nx]
    · simp [q, VO]
  · rename_i h; simp [VO, h]
theorem VO_setF {f : Nat} {e : E} : VO (exec (.setF f e) s env) P = V (ev e s env) (fun d => ∃ c fs vs, env[0]? = some (.ins c fs vs) ∧ fs.length < 900 ∧ P.nx (env.set 0 (.ins c (fputF fs f) (fputV fs vs f d)))) P.ex := by
  simp only [exec, VO_toO]; congr 1; funext d
  split
  · rename_i c fs vs h
    rw [VO_ite, VO_nx]
    simp only [h, Option.some.injEq, D.ins.injEq, eq_iff_iff]
    constructor
    · intro ⟨h1, h2⟩
      by_cases q : fs.length < 900
      · exact ⟨c, fs, vs, ⟨rfl, rfl, rfl⟩, q, h1 q⟩
      · exact (h2 q).elim
    · rintro ⟨_, _, _, ⟨rfl, rfl, rfl⟩, q, z⟩
      exact ⟨fun _ => z, fun n => (n q).elim⟩
  · rename_i h; simp only [VO, eq_iff_iff, false_iff]
    rintro ⟨c, fs, vs, hx, _⟩; exact h c fs vs hx
theorem VO_rse {c : Nat} {fs : List Nat} {fm : List Bool} {es : List E} : VO (exec (.rse c fs fm es) s env) P = V (evs es s env) (fun ds => (ds.length = fs.length ∧ fmOk fm ds = true) ∧ P.ex (.ins c fs ds)) P.ex := by
  simp only [exec, VO_toOl]; congr 1; funext ds
  by_cases h : ds.length = fs.length ∧ fmOk fm ds = true
  · simp [h, VO]
  · simp only [if_neg h, VO, eq_iff_iff, false_iff]
    exact fun z => h z.1
theorem VO_apop {i j : Nat} {k : E} : VO (exec (.apop i j k) s env) P = V (getE env i) (fun d => V (getE env j) (fun c => ∃ xs ys, d = .lst xs ∧ c = .lst ys ∧ V (ev k s env) (fun z => ∃ q, popL ys z = some q ∧ xs.length < LIM ∧ P.nx ((env.set j (.lst q.2)).set i (.lst (xs ++ [q.1])))) P.ex) P.ex) P.ex := by
  simp only [exec, VO_toO]; congr 1; funext d; congr 1; funext c
  split
  · rename_i xs ys
    rw [VO_toO]
    simp only [D.lst.injEq, eq_iff_iff]
    constructor
    · intro h
      refine ⟨xs, ys, rfl, rfl, h.mono (fun z hz => ?_) (fun _ z => z)⟩
      split at hz
      · rename_i y ys' hp
        split at hz
        · rename_i hl
          exact ⟨_, hp, hl, hz⟩
        · exact hz.elim
      · exact hz.elim
    · rintro ⟨_, _, rfl, rfl, h⟩
      refine h.mono (fun z ⟨q, hp, hl, hz⟩ => ?_) (fun _ z => z)
      rw [hp]
      simp only [if_pos hl]
      exact hz
  · rename_i h; simp only [VO, eq_iff_iff, false_iff]
    rintro ⟨xs, ys, rfl, rfl, _⟩; exact h xs ys rfl rfl
theorem VO_exp {e : E} : VO (exec (.exp e) s env) P = V (ev e s env) (fun _ => P.nx env) P.ex := by simp only [exec, VO_toO, VO_nx]
theorem VO_ifs {c : E} {a b : List S} : VO (exec (.ifs c a b) s env) P = V (ev c s env) (fun x => V (truD x) (fun r => if r = true then VO (execs a s env) P else VO (execs b s env) P) P.ex) P.ex := by
  simp only [exec, VO_toO, V_bind, V_ok]; congr 1; funext x; congr 1; funext r; cases r <;> rfl
theorem VO_ret {e : E} : VO (exec (.ret e) s env) P = V (ev e s env) P.rt P.ex := by simp only [exec, VO_toO, VO_rt]
theorem VO_retN : VO (exec .retN s env) P = P.rt .non := rfl
theorem VO_pas : VO (exec .pas s env) P = P.nx env := rfl
theorem VO_brk : VO (exec .brk s env) P = P.br env := rfl
theorem VO_cnt : VO (exec .cnt s env) P = P.ct env := rfl
theorem VO_wall : VO (exec .wall s env) P = False := rfl
/-- one turn of a for -/
def forF (tg : List Nat) (body : List S) (s : Sf) (x : D) (env : List D) : O := match setTg tg x env with
  | some env' => execs body s env'
  | none => .bad
theorem VO_for {tg : List Nat} {it : E} {body : List S} : VO (exec (.for_ tg it body) s env) P = V (ev it s env) (fun c => V (items c) (fun xs => VO (forGo (forF tg body s) xs env) P) P.ex) P.ex := by
  simp only [exec, VO_toO, VO_toOl]; rfl
theorem VO_forF1 {i : Nat} {body : List S} {x : D} : VO (forF [i] body s x env) P = VO (execs body s (env.set i x)) P := rfl
theorem VO_forF2 {i j : Nat} {body : List S} {x y : D} : VO (forF [i, j] body s (.tup [x, y]) env) P = VO (execs body s ((env.set i x).set j y)) P := rfl
theorem VO_forF3 {i j k : Nat} {body : List S} {x y z : D} : VO (forF [i, j, k] body s (.tup [x, y, z]) env) P = VO (execs body s (((env.set i x).set j y).set k z)) P := rfl
theorem VO_forF {tg : List Nat} {body : List S} {x : D} : VO (forF tg body s x env) P = ∃ env', setTg tg x env = some env' ∧ VO (execs body s env') P := by
  unfold forF
  cases setTg tg x env with
  | none => simp [VO]
  | some x => simp
theorem VO_whl {c : E} {body : List S} : VO (exec (.whl c body) s env) P = VO (whlGo (fun env => (ev c s env).bind truD) (fun env => execs body s env) 100000 env) P := by
  simp only [exec]
/-- a for by its invariant: of what is done, what is left, the slots -/
theorem VO_forGo {f : D → List D → O} {xs : List D} {env : List D} {P : Po} (I : List D → List D → List D → Prop) (h0 : I [] xs env)
    (hs : ∀ pre x post e, pre ++ x :: post = xs → I pre (x :: post) e → VO (f x e) { P with nx := I (pre ++ [x]) post, ct := I (pre ++ [x]) post, br := P.nx })
    (he : ∀ e, I xs [] e → P.nx e) : VO (forGo f xs env) P := by
  suffices h : ∀ (post pre : List D) (env : List D), pre ++ post = xs → I pre post env → VO (forGo f post env) P from h xs [] env rfl h0
  intro post
  induction post with
  | nil => intro pre env e h; rw [List.append_nil] at e; subst e; exact he _ h
  | cons x post ih =>
    intro pre env e h
    have := hs pre x post env e h
    unfold forGo
    cases q : f x env with
    | nx e1 => rw [q] at this; exact ih (pre ++ [x]) e1 (by simp [e]) this
    | ct e1 => rw [q] at this; exact ih (pre ++ [x]) e1 (by simp [e]) this
    | br e1 => rw [q] at this; exact this
    | rt d e1 => rw [q] at this; exact this
    | ex d e1 => rw [q] at this; exact this
    | bad => rw [q] at this; exact this
/-- over a list whose items are told by a function -/
theorem VO_forMap {α : Type} {g : α → D} {f : D → List D → O} {xs : List α} {env : List D} {P : Po} (I : Nat → List D → Prop) (h0 : I 0 env)
    (hs : ∀ (k : Nat) (h : k < xs.length) (e : List D), I k e → VO (f (g xs[k]) e) { P with nx := I (k + 1), ct := I (k + 1), br := P.nx })
    (he : ∀ e, I xs.length e → P.nx e) : VO (forGo f (xs.map g) env) P := by
  refine VO_forGo (fun pre post e => I pre.length e) h0 ?_ (fun e h => he e (by simpa using h))
  intro pre x post e h hi
  have hk : pre.length < xs.length := by
    have := congrArg List.length h; simp at this; omega
  have hx : x = g xs[pre.length] := by
    have := congrArg (fun l => l[pre.length]?) h
    simp at this
    rw [List.getElem?_eq_getElem hk] at this
    simpa using this
  subst hx
  have := hs pre.length hk e hi
  simpa using this
theorem rngL_map {a b : Int} : rngL a b = (List.range (b - a).toNat).map fun k : Nat => D.int (a + (k : Int)) := rfl
theorem VO_forRng {f : D → List D → O} {a b : Int} {env : List D} {P : Po} (I : Nat → List D → Prop) (h0 : I 0 env)
    (hs : ∀ (k : Nat) (_ : a + k < b) (e : List D), I k e → VO (f (.int (a + k)) e) { P with nx := I (k + 1), ct := I (k + 1), br := P.nx })
    (he : ∀ e, I (b - a).toNat e → P.nx e) : VO (forGo f (rngL a b) env) P := by
  rw [rngL_map]
  refine VO_forMap I h0 ?_ (fun e h => he e (by simpa using h))
  intro k h e hi
  simp only [List.length_range] at h
  simp only [List.getElem_range]
  exact hs k (by omega) e hi
theorem V_lcGo {α : Type} {g : α → D} {f : D → R (Option D)} {xs : List α} {h : α → D} {Q : List D → Prop} {E : D → Prop}
    (hf : ∀ x ∈ xs, f (g x) = .ok (some (h x))) (q : Q (xs.map h)) : V (lcGo f (xs.map g)) Q E := by
  suffices e : lcGo f (xs.map g) = .ok (xs.map h) by rw [e]; exact q
  clear q
  induction xs with
  | nil => rfl
  | cons x xs ih =>
    have := ih (fun y hy => hf y (List.mem_cons_of_mem _ hy))
    simp only [List.map_cons, lcGo, hf x List.mem_cons_self, R.bind_ok, this]
theorem V_lcGoF {α : Type} {g : α → D} {f : D → R (Option D)} {xs : List α} {p : α → Bool} {h : α → D} {Q : List D → Prop} {E : D → Prop}
    (hf : ∀ x ∈ xs, f (g x) = .ok (if p x then some (h x) else none)) (q : Q ((xs.filter p).map h)) : V (lcGo f (xs.map g)) Q E := by
  suffices e : lcGo f (xs.map g) = .ok ((xs.filter p).map h) by rw [e]; exact q
  clear q
  induction xs with
  | nil => rfl
  | cons x xs ih =>
    have := ih (fun y hy => hf y (List.mem_cons_of_mem _ hy))
    simp only [List.map_cons, lcGo, hf x List.mem_cons_self, R.bind_ok, this, List.filter_cons]
    cases p x <;> rfl
/-- each item made as the wish says -/
theorem V_lcGoR {α β : Type} {g : α → D} {f : D → R (Option D)} {xs : List α} {h : β → D} {q : α → β → Prop} {Q : List D → Prop} {E : D → Prop}
    (hf : ∀ x ∈ xs, V (f (g x)) (fun o => ∃ y, o = some (h y) ∧ q x y) (fun _ => False)) (k : ∀ ys : List β, ys.length = xs.length → (∀ (i : Nat) (x : α) (y : β), xs[i]? = some x → ys[i]? = some y → q x y) → Q (ys.map h)) : V (lcGo f (xs.map g)) Q E := by
  suffices e : ∃ ys : List β, lcGo f (xs.map g) = .ok (ys.map h) ∧ ys.length = xs.length ∧ (∀ (i : Nat) (x : α) (y : β), xs[i]? = some x → ys[i]? = some y → q x y) by
    obtain ⟨ys, e, l, m⟩ := e
    rw [e]; exact k ys l m
  clear k
  induction xs with
  | nil => exact ⟨[], rfl, rfl, fun i x y h => by simp at h⟩
  | cons x xs ih =>
    obtain ⟨ys, e, l, m⟩ := ih (fun y hy => hf y (List.mem_cons_of_mem _ hy))
    obtain ⟨o, e1, y, rfl, hy⟩ := (hf x List.mem_cons_self).get
    refine ⟨y :: ys, ?_, by simp [l], ?_⟩
    · simp only [List.map_cons, lcGo, e1, R.bind_ok, e]
    · intro i a b h1 h2
      cases i with
      | zero => simp at h1 h2; subst h1 h2; exact hy
      | succ i => exact m i a b (by simpa using h1) (by simpa using h2)
theorem V_lcF1 {elt : E} {i : Nat} {s : Sf} {env : List D} {x : D} {Q : Option D → Prop} {E' : D → Prop} : V (lcF elt [i] [] s env x) Q E' = V (ev elt s (env.set i x)) (fun y => Q (some y)) E' := by
  simp only [lcF, setTg, evc, R.bind_ok, if_true, V_bind, V_ok]
theorem V_lcFc {elt c : E} {i : Nat} {s : Sf} {env : List D} {x : D} {Q : Option D → Prop} {E' : D → Prop} : V (lcF elt [i] [c] s env x) Q E' = V (ev c s (env.set i x)) (fun d => V (truD d) (fun b => if b = true then V (ev elt s (env.set i x)) (fun y => Q (some y)) E' else Q none) E') E' := by
  simp only [lcF, setTg, V_bind, V_evc, V_evc0]
  congr 1; funext d; congr 1; funext b
  cases b <;> simp [V_ok, V_bind]
/-! ### a def's call -/
theorem V_run {np ns rt : Nat} {md : List Nat} {body : List S} {args : List D} {Q : D → Prop} {E' : D → Prop} (hl : args.length = np) :
    V (run (.mk np ns md rt 0 false body) args) Q E' = VO (execs body (fun _ => .bad) (args ++ List.replicate (ns - np) .un)) ⟨fun _ => Q .non, Q, fun _ => False, fun _ => False, E'⟩ := by
  show V (if args.length = np then endO false (execs body (fun _ => .bad) (args ++ List.replicate (ns - np) .un)) else .bad) Q E' = _
  rw [if_pos hl]
  cases execs body (fun _ => .bad) (args ++ List.replicate (ns - np) .un) <;> rfl
theorem V_runI {np ns rt : Nat} {md : List Nat} {body : List S} {args : List D} {Q : D → Prop} {E' : D → Prop} (hl : args.length = np) :
    V (run (.mk np ns md rt 0 true body) args) Q E' = VO (execs body (fun _ => .bad) (args ++ List.replicate (ns - np) .un)) ⟨fun env => V (getE env 0) Q E', fun _ => False, fun _ => False, fun _ => False, E'⟩ := by
  show V (if args.length = np then endO true (execs body (fun _ => .bad) (args ++ List.replicate (ns - np) .un)) else .bad) Q E' = _
  rw [if_pos hl]
  cases execs body (fun _ => .bad) (args ++ List.replicate (ns - np) .un) <;> rfl
theorem VRn {np ns rt : Nat} {md : List Nat} {body : List S} {args : List D} {Q : D → Prop} (hl : args.length = np)
    (h : VO (execs body (fun _ => .bad) (args ++ List.replicate (ns - np) .un)) ⟨fun _ => Q .non, Q, fun _ => False, fun _ => False, fun _ => False⟩) :
    ∃ d, run (.mk np ns md rt 0 false body) args = .ok d ∧ Q d := V.get ((V_run hl).mpr h)
theorem VRnE {np ns rt : Nat} {md : List Nat} {body : List S} {args : List D} {x : D} (hl : args.length = np)
    (h : VO (execs body (fun _ => .bad) (args ++ List.replicate (ns - np) .un)) ⟨fun _ => x = .non, fun d => x = d, fun _ => False, fun _ => False, fun _ => False⟩) :
    run (.mk np ns md rt 0 false body) args = .ok x := by
  obtain ⟨d, e, rfl⟩ := V.get ((V_run (Q := fun d => x = d) (E' := fun _ => False) hl).mpr h)
  exact e
end

/-! ### values -/
def nix (n : Nat) (i : Int) : Nat := if 0 ≤ i then i.toNat else (i + n).toNat
def inB (n : Nat) (i : Int) : Prop := -(n : Int) ≤ i ∧ i < n
def getA {a : Type} [Inhabited a] (l : List a) (i : Int) : a := l.getD (nix l.length i) default
theorem atL_inB {a : Type} [Inhabited a] {l : List a} {i : Int} (h : inB l.length i) : atL l i = some (getA l i) := by
  obtain ⟨h1, h2⟩ := h
  unfold atL getA nix ixL
  by_cases q : 0 ≤ i
  · have e : i.toNat < l.length := by omega
    simp only [if_pos q, if_pos h2, Option.bind_some]
    rw [List.getD_eq_getElem?_getD, List.getElem?_eq_getElem e, Option.getD_some]
  · have e : (i + l.length).toNat < l.length := by omega
    simp only [if_neg q, if_pos h1, Option.bind_some]
    rw [List.getD_eq_getElem?_getD, List.getElem?_eq_getElem e, Option.getD_some]
theorem atL_out {a : Type} {l : List a} {i : Int} (h : ¬ inB l.length i) : atL l i = none := by
  unfold inB at h
  unfold atL ixL
  by_cases q : 0 ≤ i
  · rw [if_pos q, if_neg (by omega)]; rfl
  · rw [if_neg q, if_neg (by omega)]; rfl
theorem atL_map {a b : Type} {l : List a} {f : a → b} {i : Int} : atL (l.map f) i = (atL l i).map f := by
  unfold atL
  rw [List.length_map]
  cases ixL l.length i <;> simp
theorem getA_nat {a : Type} [Inhabited a] {l : List a} {i : Int} (k : Nat) (h : i = (k : Int)) (hk : k < l.length) : getA l i = l[k] := by
  subst h
  unfold getA nix
  rw [if_pos (by omega), List.getD_eq_getElem?_getD, show ((k : Int)).toNat = k by omega, List.getElem?_eq_getElem hk, Option.getD_some]
theorem getA_last {a : Type} [Inhabited a] {l : List a} (h : 0 < l.length) : getA l (-1) = l[l.length - 1]'(by omega) := by
  unfold getA nix
  rw [if_neg (by omega), List.getD_eq_getElem?_getD, show ((-1 : Int) + l.length).toNat = l.length - 1 by omega, List.getElem?_eq_getElem (by omega), Option.getD_some]
theorem inB_nat {n : Nat} {i : Int} (h0 : 0 ≤ i) (h : i < n) : inB n i := ⟨by omega, h⟩
section
variable {Q : D → Prop} {E' : D → Prop}
theorem V_ixL {a : Type} [Inhabited a] {l : List a} {f : a → D} {i : Int} : V (ixD (.lst (l.map f)) (.int i)) Q E' = (inB l.length i ∧ Q (f (getA l i))) := by
  show V (R.of (atL (l.map f) i)) Q E' = _
  rw [V_of, atL_map]
  by_cases h : inB l.length i
  · simp [atL_inB h, h]
  · simp [atL_out h, h]
theorem V_ixT {a : Type} [Inhabited a] {l : List a} {f : a → D} {i : Int} : V (ixD (.tup (l.map f)) (.int i)) Q E' = (inB l.length i ∧ Q (f (getA l i))) := by
  show V (R.of (atL (l.map f) i)) Q E' = _
  rw [V_of, atL_map]
  by_cases h : inB l.length i
  · simp [atL_inB h, h]
  · simp [atL_out h, h]
theorem V_ixS {l : List Int} {i : Int} : V (ixD (.scr l) (.int i)) Q E' = (inB l.length i ∧ Q (.int (getA l i))) := by
  show V (R.of ((atL l i).map .int)) Q E' = _
  rw [V_of]
  by_cases h : inB l.length i
  · simp [atL_inB h, h]
  · simp [atL_out h, h]
theorem V_ix20 {x y : D} : V (ixD (.tup [x, y]) (.int 0)) Q E' = Q x := rfl
theorem V_ix21 {x y : D} : V (ixD (.tup [x, y]) (.int 1)) Q E' = Q y := rfl
theorem V_ix30 {x y z : D} : V (ixD (.tup [x, y, z]) (.int 0)) Q E' = Q x := rfl
theorem V_ix31 {x y z : D} : V (ixD (.tup [x, y, z]) (.int 1)) Q E' = Q y := rfl
theorem V_ix32 {x y z : D} : V (ixD (.tup [x, y, z]) (.int 2)) Q E' = Q z := rfl
theorem V_eqRI {i j : Int} {Q : Bool → Prop} : V (eqR (.int i) (.int j)) Q E' = Q (i == j) := rfl
theorem V_eqI {i j : Int} {Q : Bool → Prop} : V (cmpD .eq (.int i) (.int j)) Q E' = Q (i == j) := rfl
theorem V_neI {i j : Int} {Q : Bool → Prop} : V (cmpD .ne (.int i) (.int j)) Q E' = Q (!(i == j)) := rfl
theorem V_eqG {x y : D} {Q : Bool → Prop} : V (cmpD .eq x y) Q E' = ((okD 12 x = true ∧ okD 12 y = true) ∧ Q (eqD x y)) := by
  show V (eqR x y) Q E' = _
  unfold eqR
  rw [V_need, Bool.and_eq_true]; rfl
theorem V_neG {x y : D} {Q : Bool → Prop} : V (cmpD .ne x y) Q E' = ((okD 12 x = true ∧ okD 12 y = true) ∧ Q (!(eqD x y))) := by
  show V ((eqR x y).bind _) Q E' = _
  rw [V_bind]
  unfold eqR
  rw [V_need, Bool.and_eq_true]; rfl
theorem V_eq {a : Type} {r : R a} {x : a} {Q : a → Prop} {E' : D → Prop} (h : r = .ok x) : V r Q E' = Q x := by rw [h]; rfl
end

/-! ### the same wishes, with a mark that keeps simp out of them -/
inductive Tg {a : Type} (Q : a → Prop) (E : D → Prop) : Type where
  | u
inductive TgP (P : Po) : Type where
  | u
def wn (P : Po) (f : List D → Prop) : Po := { P with nx := f }
def wl (P : Po) (f : List D → Prop) : Po := { P with nx := f, ct := f, br := P.nx }
theorem wn_nx {P : Po} {f : List D → Prop} : (wn P f).nx = f := rfl
theorem wn_rt {P : Po} {f : List D → Prop} : (wn P f).rt = P.rt := rfl
theorem wn_br {P : Po} {f : List D → Prop} : (wn P f).br = P.br := rfl
theorem wn_ct {P : Po} {f : List D → Prop} : (wn P f).ct = P.ct := rfl
theorem wn_ex {P : Po} {f : List D → Prop} : (wn P f).ex = P.ex := rfl
theorem wl_nx {P : Po} {f : List D → Prop} : (wl P f).nx = f := rfl
theorem wl_rt {P : Po} {f : List D → Prop} : (wl P f).rt = P.rt := rfl
theorem wl_br {P : Po} {f : List D → Prop} : (wl P f).br = P.nx := rfl
theorem wl_ct {P : Po} {f : List D → Prop} : (wl P f).ct = f := rfl
theorem wl_ex {P : Po} {f : List D → Prop} : (wl P f).ex = P.ex := rfl
/-- r ends with Q, or in an exception with E -/
def W {a : Type} (r : R a) (Q : a → Prop) (E : D → Prop) (_ : Tg Q E := .u) : Prop := V r Q E
def WO (o : O) (P : Po) (_ : TgP P := .u) : Prop := VO o P
theorem W_congr {a : Type} {r r' : R a} {Q : a → Prop} {E : D → Prop} (h : r = r') : W r Q E = W r' Q E := V_congr h
theorem W_ok {a : Type} {x : a} {Q : a → Prop} {E : D → Prop} : W (.ok x) Q E = Q x := V_ok
theorem W_exc {a : Type} {x : D} {Q : a → Prop} {E : D → Prop} : W (.exc x : R a) Q E = E x := V_exc
theorem W_bad {a : Type} {Q : a → Prop} {E : D → Prop} : W (.bad : R a) Q E = False := V_bad
theorem W_bind {a b : Type} {r : R a} {f : a → R b} {Q : b → Prop} {E : D → Prop} : W (r.bind f) Q E = W r (fun x => W (f x) Q E) E := V_bind
theorem W_nox {a : Type} {r : R a} {Q : a → Prop} {E : D → Prop} : W r.nox Q E = W r Q (fun _ => False) := V_nox
theorem W_of {a : Type} {o : Option a} {Q : a → Prop} {E : D → Prop} : W (R.of o) Q E = ∃ x, o = some x ∧ Q x := V_of
theorem W_ite {a : Type} {c : Prop} [Decidable c] {r q : R a} {Q : a → Prop} {E : D → Prop} : W (if c then r else q) Q E = ((c → W r Q E) ∧ (¬c → W q Q E)) := V_ite
theorem W_need {a : Type} {c : Prop} [Decidable c] {r : R a} {Q : a → Prop} {E : D → Prop} : W (if c then r else .bad) Q E = (c ∧ W r Q E) := V_need
theorem W.mono {a : Type} {r : R a} {Q Q' : a → Prop} {E E' : D → Prop} (h : W r Q E) (q : ∀ x, Q x → Q' x) (e : ∀ d, E d → E' d) : W r Q' E' := V.mono h q e
theorem W.by {a : Type} {r : R a} {x : a} {Q : a → Prop} {E : D → Prop} (h : r = .ok x) (q : Q x) : W r Q E := V.by h q
theorem W.imp {a : Type} {r : R a} {Q Q' : a → Prop} {E : D → Prop} (h : W r Q (fun _ => False)) (q : ∀ x, Q x → Q' x) : W r Q' E := V.imp h q
theorem W.get {a : Type} {r : R a} {Q : a → Prop} (h : W r Q (fun _ => False)) : ∃ x, r = .ok x ∧ Q x := V.get h
theorem WO_congr {o o' : O} {P : Po} (h : o = o') : WO o P = WO o' P := VO_congr h
theorem WO_nx {e : List D} {P : Po} : WO (.nx e) P = P.nx e := VO_nx
theorem WO_rt {d : D} {e : List D} {P : Po} : WO (.rt d e) P = P.rt d := VO_rt
theorem WO_br {e : List D} {P : Po} : WO (.br e) P = P.br e := VO_br
theorem WO_ct {e : List D} {P : Po} : WO (.ct e) P = P.ct e := VO_ct
theorem WO_ite {c : Prop} [Decidable c] {r q : O} {P : Po} : WO (if c then r else q) P = ((c → WO r P) ∧ (¬c → WO q P)) := VO_ite
theorem WO.mono {o : O} {P P' : Po} (h : WO o P) (h1 : ∀ e, P.nx e → P'.nx e) (h2 : ∀ e, P.rt e → P'.rt e) (h3 : ∀ e, P.br e → P'.br e) (h4 : ∀ e, P.ct e → P'.ct e) (h5 : ∀ e, P.ex e → P'.ex e) : WO o P' := VO.mono h h1 h2 h3 h4 h5
theorem WO_toO {r : R D} {env : List D} {f : D → O} {P : Po} : WO (r.toO env f) P = W r (fun d => WO (f d) P) P.ex := VO_toO
theorem WO_toOl {r : R (List D)} {env : List D} {f : List D → O} {P : Po} : WO (r.toOl env f) P = W r (fun d => WO (f d) P) P.ex := VO_toOl
section
variable {s : Sf} {env : List D} {E' : D → Prop} {Q : D → Prop}
theorem W_nm {i : Nat} : W (ev (.nm i) s env) Q E' = W (getE env i) Q E' := V_nm
theorem W_cst {d : D} : W (ev (.cst d) s env) Q E' = Q d := V_cst
theorem W_bin {o : Op} {a b : E} : W (ev (.bin o a b) s env) Q E' = W (ev a s env) (fun x => W (ev b s env) (fun y => W (opD o x y) Q E') E') E' := V_bin
theorem W_neg {a : E} : W (ev (.neg a) s env) Q E' = W (ev a s env) (fun x => W (negD x) Q E') E' := V_neg
theorem W_nt {a : E} : W (ev (.nt a) s env) Q E' = W (ev a s env) (fun x => W (truD x) (fun b => Q (.bl (!b))) E') E' := V_nt
theorem W_bop {an : Bool} {es : List E} : W (ev (.bop an es) s env) Q E' = W (evb an es s env) Q E' := V_bop
theorem W_evb1 {an : Bool} {e : E} : W (evb an [e] s env) Q E' = W (ev e s env) Q E' := V_evb1
theorem W_evb {an : Bool} {e e' : E} {es : List E} : W (evb an (e :: e' :: es) s env) Q E' = W (ev e s env) (fun d => W (truD d) (fun b => if b = an then W (evb an (e' :: es) s env) Q E' else Q d) E') E' := V_evb
theorem W_cmp {o : Cp} {a b : E} : W (ev (.cmp o a b) s env) Q E' = W (ev a s env) (fun x => W (ev b s env) (fun y => W (cmpD o x y) (fun r => Q (.bl r)) E') E') E' := V_cmp
theorem W_isn {a : E} {ng : Bool} : W (ev (.isn a ng) s env) Q E' = W (ev a s env) (fun x => W (isNon x) (fun b => Q (.bl (if ng then !b else b))) E') E' := V_isn
theorem W_ife {c a b : E} : W (ev (.ife c a b) s env) Q E' = W (ev c s env) (fun x => W (truD x) (fun r => if r = true then W (ev a s env) Q E' else W (ev b s env) Q E') E') E' := V_ife
theorem W_chn {o1 o2 : Cp} {a b c : E} : W (ev (.chn o1 o2 a b c) s env) Q E' = W (ev a s env) (fun x => W (ev b s env) (fun y => W (cmpI o1 x y) (fun r => if r = true then W (ev c s env) (fun z => W (cmpI o2 y z) (fun q => Q (.bl q)) E') E' else Q (.bl false)) E') E') E' := V_chn
theorem W_tupE {es : List E} : W (ev (.tupE es) s env) Q E' = W (evs es s env) (fun ds => Q (.tup ds)) E' := V_tupE
theorem W_lstE {es : List E} : W (ev (.lstE es) s env) Q E' = W (evs es s env) (fun ds => Q (.lst ds)) E' := V_lstE
theorem W_dctE {tk : Bool} : W (ev (.dctE tk) s env) Q E' = Q (.dct tk [] []) := V_dctE
theorem W_ix {a b : E} : W (ev (.ix a b) s env) Q E' = W (ev a s env) (fun x => W (ev b s env) (fun y => W (ixD x y) Q E') E') E' := V_ix
theorem W_sl {a : E} {lo hi : List E} : W (ev (.sl a lo hi) s env) Q E' = W (ev a s env) (fun x => W (evs lo s env) (fun l => W (toP l) (fun y => W (evs hi s env) (fun h => W (toP h) (fun z => W (slD x y z) Q E') E') E') E') E') E' := V_sl
theorem W_att {a : E} {f : Nat} : W (ev (.att a f) s env) Q E' = W (ev a s env) (fun x => W (attD x f) Q E') E' := V_att
theorem W_call {f : F} {es : List E} : W (ev (.call f es) s env) Q E' = W (evs es s env) (fun ds => W (run f ds) Q E') E' := V_call
theorem W_slf {es : List E} : W (ev (.slf es) s env) Q E' = W (evs es s env) (fun ds => W (s ds) Q E') E' := V_slf
theorem W_meth {c : Nat} {f : F} {o : E} {es : List E} : W (ev (.meth c f o es) s env) Q E' = W (ev o s env) (fun x => isCls c x = true ∧ W (evs es s env) (fun ds => W (run f (x :: ds)) Q E') E') E' := V_meth
theorem W_mk {c : Nat} {f : F} {es : List E} : W (ev (.mk c f es) s env) Q E' = W (evs es s env) (fun ds => W (run f (.ins c [] [] :: ds)) Q E') E' := V_mk
theorem W_blt {b : Blt} {es : List E} : W (ev (.blt b es) s env) Q E' = W (evs es s env) (fun ds => W (bltD b ds) Q E') E' := V_blt
theorem W_isi {a : E} {ts : List Ty} : W (ev (.isi a ts) s env) Q E' = W (ev a s env) (fun x => W (isiD x ts) Q E') E' := V_isi
theorem W_bm {m : Bm} {o : E} {es : List E} : W (ev (.bm m o es) s env) Q E' = W (ev o s env) (fun x => rcv m x = true ∧ W (evs es s env) (fun ds => W (bmD m x ds) Q E') E') E' := V_bm
theorem W_rng {a b : E} : W (ev (.rng a b) s env) Q E' = W (ev a s env) (fun x => W (ev b s env) (fun y => W (rngD x y) Q E') E') E' := V_rng
theorem W_zipE {a b : E} : W (ev (.zipE a b) s env) Q E' = W (ev a s env) (fun x => W (ev b s env) (fun y => W (zipD x y) Q E') E') E' := V_zipE
theorem W_enumE {a : E} : W (ev (.enumE a) s env) Q E' = W (ev a s env) (fun x => W (enumD x) Q E') E' := V_enumE
theorem W_revE {a : E} : W (ev (.revE a) s env) Q E' = W (ev a s env) (fun x => W (revD x) Q E') E' := V_revE
theorem W_xat {i f : Nat} : W (ev (.xat i f) s env) Q E' = W (R.of env[i]?) (fun d => W (xatD d f) Q E') E' := V_xat
theorem W_xis {i k : Nat} : W (ev (.xis i k) s env) Q E' = W (R.of env[i]?) (fun d => W (xisD d k) Q E') E' := V_xis
theorem W_rvs {a : E} : W (ev (.rvs a) s env) Q E' = W (ev a s env) (fun x => W (rvsD x) Q E') E' := V_rvs
theorem W_lc {elt : E} {tg : List Nat} {it : E} {cnd : List E} : W (ev (.lc elt tg it cnd) s env) Q E' = W (ev it s env) (fun c => W (items c) (fun xs => W (lcGo (lcF elt tg cnd s env) xs) (fun ys => ys.length ≤ LIM ∧ Q (.lst ys)) (fun _ => False)) E') E' := V_lc
theorem W_dc {tk : Bool} {k v : E} {tg : List Nat} {it : E} : W (ev (.dc tk k v tg it) s env) Q E' = W (ev it s env) (fun c => W (items c) (fun xs => W (dcGo tk (dcF k v tg s env) xs [] []) Q (fun _ => False)) E') E' := V_dc
variable {Q' : List D → Prop}
theorem W_evs0 : W (evs [] s env) Q' E' = Q' [] := V_evs0
theorem W_evs {e : E} {es : List E} : W (evs (e :: es) s env) Q' E' = W (ev e s env) (fun d => W (evs es s env) (fun ds => Q' (d :: ds)) E') E' := V_evs
variable {Qb : Bool → Prop}
theorem W_evc0 : W (evc [] s env) Qb E' = Qb true := V_evc0
theorem W_evc {e : E} {es : List E} : W (evc (e :: es) s env) Qb E' = W (ev e s env) (fun d => W (truD d) (fun b => if b = true then W (evc es s env) Qb E' else Qb false) E') E' := V_evc
end
section
variable {s : Sf} {env : List D} {P : Po}
theorem WO_nil : WO (execs [] s env) P = P.nx env := VO_nil
theorem WO_cons {t : S} {ts : List S} : WO (execs (t :: ts) s env) P = WO (exec t s env) (wn P fun e => WO (execs ts s e) P) := VO_cons
theorem WO_split {ts : List S} (n : Nat) (M : List D → Prop) (h1 : WO (execs (ts.take n) s env) (wn P M)) (h2 : ∀ e, M e → WO (execs (ts.drop n) s e) P) : WO (execs ts s env) P := VO_split n M h1 h2
theorem WO_set {i : Nat} {e : E} : WO (exec (.set i e) s env) P = W (ev e s env) (fun d => P.nx (env.set i d)) P.ex := VO_set
theorem WO_sets {is : List Nat} {e : E} : WO (exec (.sets is e) s env) P = W (ev e s env) (fun d => ∃ env', setTg is d env = some env' ∧ P.nx env') P.ex := VO_sets
theorem WO_app {i : Nat} {p : List E} {e : E} : WO (exec (.app i p e) s env) P = W (getE env i) (fun d => W (evs p s env) (fun ps => ∃ xs, locD ps d = some (.lst xs) ∧ W (ev e s env) (fun y => W (muAt .app [y] ps d) (fun d' => P.nx (env.set i d')) P.ex) P.ex) P.ex) P.ex := VO_app
theorem WO_put {i : Nat} {p : List E} {k e : E} : WO (exec (.put i p k e) s env) P = W (ev e s env) (fun y => W (getE env i) (fun d => W (evs p s env) (fun ps => (∃ x, locD ps d = some x) ∧ W (ev k s env) (fun kk => putG k ps d = true ∧ W (muAt .put [kk, y] ps d) (fun d' => P.nx (env.set i d')) P.ex) P.ex) P.ex) P.ex) P.ex := VO_put
theorem WO_setF {f : Nat} {e : E} : WO (exec (.setF f e) s env) P = W (ev e s env) (fun d => ∃ c fs vs, env[0]? = some (.ins c fs vs) ∧ fs.length < 900 ∧ P.nx (env.set 0 (.ins c (fputF fs f) (fputV fs vs f d)))) P.ex := VO_setF
theorem WO_rse {c : Nat} {fs : List Nat} {fm : List Bool} {es : List E} : WO (exec (.rse c fs fm es) s env) P = W (evs es s env) (fun ds => (ds.length = fs.length ∧ fmOk fm ds = true) ∧ P.ex (.ins c fs ds)) P.ex := VO_rse
theorem WO_apop {i j : Nat} {k : E} : WO (exec (.apop i j k) s env) P = W (getE env i) (fun d => W (getE env j) (fun c => ∃ xs ys, d = .lst xs ∧ c = .lst ys ∧ W (ev k s env) (fun z => ∃ q, popL ys z = some q ∧ xs.length < LIM ∧ P.nx ((env.set j (.lst q.2)).set i (.lst (xs ++ [q.1])))) P.ex) P.ex) P.ex := VO_apop
theorem WO_exp {e : E} : WO (exec (.exp e) s env) P = W (ev e s env) (fun _ => P.nx env) P.ex := VO_exp
theorem WO_ifs {c : E} {a b : List S} : WO (exec (.ifs c a b) s env) P = W (ev c s env) (fun x => W (truD x) (fun r => if r = true then WO (execs a s env) P else WO (execs b s env) P) P.ex) P.ex := VO_ifs
theorem WO_ret {e : E} : WO (exec (.ret e) s env) P = W (ev e s env) P.rt P.ex := VO_ret
theorem WO_retN : WO (exec .retN s env) P = P.rt .non := VO_retN
theorem WO_pas : WO (exec .pas s env) P = P.nx env := VO_pas
theorem WO_brk : WO (exec .brk s env) P = P.br env := VO_brk
theorem WO_cnt : WO (exec .cnt s env) P = P.ct env := VO_cnt
theorem WO_wall : WO (exec .wall s env) P = False := VO_wall
theorem WO_for {tg : List Nat} {it : E} {body : List S} : WO (exec (.for_ tg it body) s env) P = W (ev it s env) (fun c => W (items c) (fun xs => WO (forGo (forF tg body s) xs env) P) P.ex) P.ex := VO_for
theorem WO_forF1 {i : Nat} {body : List S} {x : D} : WO (forF [i] body s x env) P = WO (execs body s (env.set i x)) P := VO_forF1
theorem WO_forF2 {i j : Nat} {body : List S} {x y : D} : WO (forF [i, j] body s (.tup [x, y]) env) P = WO (execs body s ((env.set i x).set j y)) P := VO_forF2
theorem WO_forF3 {i j k : Nat} {body : List S} {x y z : D} : WO (forF [i, j, k] body s (.tup [x, y, z]) env) P = WO (execs body s (((env.set i x).set j y).set k z)) P := VO_forF3
theorem WO_forF {tg : List Nat} {body : List S} {x : D} : WO (forF tg body s x env) P = ∃ env', setTg tg x env = some env' ∧ WO (execs body s env') P := VO_forF
theorem WO_whl {c : E} {body : List S} : WO (exec (.whl c body) s env) P = WO (whlGo (fun env => (ev c s env).bind truD) (fun env => execs body s env) 100000 env) P := VO_whl
theorem WO_forGo {f : D → List D → O} {xs : List D} {env : List D} {P : Po} (I : List D → List D → List D → Prop) (h0 : I [] xs env)
    (hs : ∀ pre x post e, pre ++ x :: post = xs → I pre (x :: post) e → WO (f x e) (wl P (I (pre ++ [x]) post)))
    (he : ∀ e, I xs [] e → P.nx e) : WO (forGo f xs env) P := VO_forGo I h0 hs he
theorem WO_forMap {α : Type} {g : α → D} {f : D → List D → O} {xs : List α} {env : List D} {P : Po} (I : Nat → List D → Prop) (h0 : I 0 env)
    (hs : ∀ (k : Nat) (h : k < xs.length) (e : List D), I k e → WO (f (g xs[k]) e) (wl P (I (k + 1))))
    (he : ∀ e, I xs.length e → P.nx e) : WO (forGo f (xs.map g) env) P := VO_forMap I h0 hs he
theorem WO_forRng {f : D → List D → O} {a b : Int} {env : List D} {P : Po} (I : Nat → List D → Prop) (h0 : I 0 env)
    (hs : ∀ (k : Nat) (_ : a + k < b) (e : List D), I k e → WO (f (.int (a + k)) e) (wl P (I (k + 1))))
    (he : ∀ e, I (b - a).toNat e → P.nx e) : WO (forGo f (rngL a b) env) P := VO_forRng I h0 hs he
theorem W_lcGo {α : Type} {g : α → D} {f : D → R (Option D)} {xs : List α} {h : α → D} {Q : List D → Prop} {E : D → Prop}
    (hf : ∀ x ∈ xs, f (g x) = .ok (some (h x))) (q : Q (xs.map h)) : W (lcGo f (xs.map g)) Q E := V_lcGo hf q
theorem W_lcGoF {α : Type} {g : α → D} {f : D → R (Option D)} {xs : List α} {p : α → Bool} {h : α → D} {Q : List D → Prop} {E : D → Prop}
    (hf : ∀ x ∈ xs, f (g x) = .ok (if p x then some (h x) else none)) (q : Q ((xs.filter p).map h)) : W (lcGo f (xs.map g)) Q E := V_lcGoF hf q
theorem W_lcGoR {α β : Type} {g : α → D} {f : D → R (Option D)} {xs : List α} {h : β → D} {q : α → β → Prop} {Q : List D → Prop} {E : D → Prop}
    (hf : ∀ x ∈ xs, W (f (g x)) (fun o => ∃ y, o = some (h y) ∧ q x y) (fun _ => False)) (k : ∀ ys : List β, ys.length = xs.length → (∀ (i : Nat) (x : α) (y : β), xs[i]? = some x → ys[i]? = some y → q x y) → Q (ys.map h)) : W (lcGo f (xs.map g)) Q E := V_lcGoR hf k
theorem W_lcF1 {elt : E} {i : Nat} {s : Sf} {env : List D} {x : D} {Q : Option D → Prop} {E' : D → Prop} : W (lcF elt [i] [] s env x) Q E' = W (ev elt s (env.set i x)) (fun y => Q (some y)) E' := V_lcF1
theorem W_lcFc {elt c : E} {i : Nat} {s : Sf} {env : List D} {x : D} {Q : Option D → Prop} {E' : D → Prop} : W (lcF elt [i] [c] s env x) Q E' = W (ev c s (env.set i x)) (fun d => W (truD d) (fun b => if b = true then W (ev elt s (env.set i x)) (fun y => Q (some y)) E' else Q none) E') E' := V_lcFc
theorem W_run {np ns rt : Nat} {md : List Nat} {body : List S} {args : List D} {Q : D → Prop} {E' : D → Prop} (hl : args.length = np) :
    W (run (.mk np ns md rt 0 false body) args) Q E' = WO (execs body (fun _ => .bad) (args ++ List.replicate (ns - np) .un)) ⟨fun _ => Q .non, Q, fun _ => False, fun _ => False, E'⟩ := V_run hl
theorem W_runI {np ns rt : Nat} {md : List Nat} {body : List S} {args : List D} {Q : D → Prop} {E' : D → Prop} (hl : args.length = np) :
    W (run (.mk np ns md rt 0 true body) args) Q E' = WO (execs body (fun _ => .bad) (args ++ List.replicate (ns - np) .un)) ⟨fun env => W (getE env 0) Q E', fun _ => False, fun _ => False, fun _ => False, E'⟩ := V_runI hl
theorem Rn {np ns rt : Nat} {md : List Nat} {body : List S} {args : List D} {Q : D → Prop} (hl : args.length = np)
    (h : WO (execs body (fun _ => .bad) (args ++ List.replicate (ns - np) .un)) ⟨fun _ => Q .non, Q, fun _ => False, fun _ => False, fun _ => False⟩) :
    ∃ d, run (.mk np ns md rt 0 false body) args = .ok d ∧ Q d := VRn hl h
theorem RnE {np ns rt : Nat} {md : List Nat} {body : List S} {args : List D} {x : D} (hl : args.length = np)
    (h : WO (execs body (fun _ => .bad) (args ++ List.replicate (ns - np) .un)) ⟨fun _ => x = .non, fun d => x = d, fun _ => False, fun _ => False, fun _ => False⟩) :
    run (.mk np ns md rt 0 false body) args = .ok x := VRnE hl h
end
section
variable {Q : D → Prop} {E' : D → Prop}
theorem W_ixL {a : Type} [Inhabited a] {l : List a} {f : a → D} {i : Int} : W (ixD (.lst (l.map f)) (.int i)) Q E' = (inB l.length i ∧ Q (f (getA l i))) := V_ixL
theorem W_ixT {a : Type} [Inhabited a] {l : List a} {f : a → D} {i : Int} : W (ixD (.tup (l.map f)) (.int i)) Q E' = (inB l.length i ∧ Q (f (getA l i))) := V_ixT
theorem W_ixS {l : List Int} {i : Int} : W (ixD (.scr l) (.int i)) Q E' = (inB l.length i ∧ Q (.int (getA l i))) := V_ixS
theorem W_ix20 {x y : D} : W (ixD (.tup [x, y]) (.int 0)) Q E' = Q x := V_ix20
theorem W_ix21 {x y : D} : W (ixD (.tup [x, y]) (.int 1)) Q E' = Q y := V_ix21
theorem W_ix30 {x y z : D} : W (ixD (.tup [x, y, z]) (.int 0)) Q E' = Q x := V_ix30
theorem W_ix31 {x y z : D} : W (ixD (.tup [x, y, z]) (.int 1)) Q E' = Q y := V_ix31
theorem W_ix32 {x y z : D} : W (ixD (.tup [x, y, z]) (.int 2)) Q E' = Q z := V_ix32
theorem W_eqRI {i j : Int} {Q : Bool → Prop} : W (eqR (.int i) (.int j)) Q E' = Q (i == j) := V_eqRI
theorem W_eqI {i j : Int} {Q : Bool → Prop} : W (cmpD .eq (.int i) (.int j)) Q E' = Q (i == j) := V_eqI
theorem W_neI {i j : Int} {Q : Bool → Prop} : W (cmpD .ne (.int i) (.int j)) Q E' = Q (!(i == j)) := V_neI
theorem W_eqG {x y : D} {Q : Bool → Prop} : W (cmpD .eq x y) Q E' = ((okD 12 x = true ∧ okD 12 y = true) ∧ Q (eqD x y)) := V_eqG
theorem W_neG {x y : D} {Q : Bool → Prop} : W (cmpD .ne x y) Q E' = ((okD 12 x = true ∧ okD 12 y = true) ∧ Q (!(eqD x y))) := V_neG
theorem W_eq {a : Type} {r : R a} {x : a} {Q : a → Prop} {E' : D → Prop} (h : r = .ok x) : W r Q E' = Q x := V_eq h
end
theorem atL_nat {a : Type} {xs : List a} {i : Int} (k : Nat) (h : i = (k : Int)) (hk : k < xs.length) : atL xs i = some xs[k] := by
  subst h
  have e : ((k : Int)).toNat = k := by omega
  simp only [atL, ixL, show (0 : Int) ≤ (k : Int) by omega, show ((k : Int)) < (xs.length : Int) by omega, if_true, Option.bind_some, e]
  exact List.getElem?_eq_getElem hk
theorem atL_last {a : Type} {xs : List a} (h : 0 < xs.length) : atL xs (-1) = some (xs[xs.length - 1]'(by omega)) := by
  have e : ((-1 : Int) + (xs.length : Int)).toNat = xs.length - 1 := by omega
  have e1 : ¬ (0 : Int) ≤ -1 := by omega
  have e2 : -(xs.length : Int) ≤ -1 := by omega
  simp only [atL, ixL, if_neg e1, if_pos e2, Option.bind_some, e]
  exact List.getElem?_eq_getElem _
theorem ixL_nat {n k : Nat} {i : Int} (h : i = (k : Int)) (hk : k < n) : ixL n i = some k := by
  subst h
  have e : ((k : Int)).toNat = k := by omega
  simp only [ixL, show (0 : Int) ≤ (k : Int) by omega, show ((k : Int)) < (n : Int) by omega, if_true, e]
theorem putG_nil {k : E} {d : D} : putG k [] d = putOk k d := by unfold putG; cases d <;> rfl
theorem putG_of {k : E} {ps : List D} {d t : D} (h : locD ps d = some t) : putG k ps d = putOk k t := by unfold putG; rw [h]
theorem putOk_lst {k : E} {xs : List D} : putOk k (.lst xs) = true := rfl
theorem putOk_dF {k : E} {ks vs : List D} : putOk k (.dct false ks vs) = true := rfl
theorem putOk_tup {es : List E} {b : Bool} {ks vs : List D} : putOk (.tupE es) (.dct b ks vs) = true := by cases b <;> rfl
theorem locD_nil {d : D} : locD [] d = some d := by cases d <;> rfl
theorem muAt_nil {m : Mu} {as : List D} {d : D} : muAt m as [] d = muD m as d := by cases d <;> rfl
section
variable {Q : D → Prop} {E : D → Prop}
theorem W_opAdd {i j : Int} : W (opD .add (.int i) (.int j)) Q E = Q (.int (i + j)) := rfl
theorem W_opSub {i j : Int} : W (opD .sub (.int i) (.int j)) Q E = Q (.int (i - j)) := rfl
theorem W_opMul {i j : Int} : W (opD .mul (.int i) (.int j)) Q E = (mulOk i j = true ∧ Q (.int (i * j))) := by
  show W (if mulOk i j = true then R.ok (D.int (i * j)) else .bad) Q E = _
  rw [W_need]; rfl
theorem W_opDiv {i j : Int} : W (opD .fdiv (.int i) (.int j)) Q E = ((0 < j ∧ j < 1073741824) ∧ Q (.int (i / j))) := by
  show W (if 0 < j ∧ j < 1073741824 then R.ok (D.int (i / j)) else .bad) Q E = _
  rw [W_need]; rfl
theorem W_opMod {i j : Int} : W (opD .mod (.int i) (.int j)) Q E = (0 < j ∧ Q (.int (i % j))) := by
  show W (if 0 < j then R.ok (D.int (i % j)) else .bad) Q E = _
  rw [W_need]; rfl
theorem W_opPow {i j : Int} : W (opD .pow (.int i) (.int j)) Q E = ((0 ≤ j ∧ j ≤ 1000000 ∧ i.natAbs < 18446744073709551616) ∧ Q (.int (i ^ j.toNat))) := by
  show W (if 0 ≤ j ∧ j ≤ 1000000 ∧ i.natAbs < 18446744073709551616 then R.ok (D.int (i ^ j.toNat)) else .bad) Q E = _
  rw [W_need]; rfl
theorem W_opCat {a b : List D} : W (opD .add (.lst a) (.lst b)) Q E = (a.length + b.length ≤ LIM ∧ Q (.lst (a ++ b))) := by
  show W (if a.length + b.length ≤ LIM then R.ok (D.lst (a ++ b)) else .bad) Q E = _
  rw [W_need]; rfl
theorem W_opCatT {a b : List D} : W (opD .add (.tup a) (.tup b)) Q E = (a.length + b.length ≤ LIM ∧ Q (.tup (a ++ b))) := by
  show W (if a.length + b.length ≤ LIM then R.ok (D.tup (a ++ b)) else .bad) Q E = _
  rw [W_need]; rfl
theorem W_opRep {a : List D} {k : Int} : W (opD .mul (.lst a) (.int k)) Q E = ((-9223372036854775808 ≤ k ∧ k < 9223372036854775808 ∧ a.length * k.toNat ≤ LIM) ∧ Q (.lst (List.replicate k.toNat a).flatten)) := by
  show W (if -9223372036854775808 ≤ k ∧ k < 9223372036854775808 ∧ a.length * k.toNat ≤ LIM then R.ok (D.lst (List.replicate k.toNat a).flatten) else .bad) Q E = _
  rw [W_need]; rfl
end
theorem W_rngD {i j : Int} {Q : D → Prop} {E : D → Prop} : W (rngD (.int i) (.int j)) Q E = ((-8388608 ≤ i ∧ i ≤ 8388608 ∧ -8388608 ≤ j ∧ j ≤ 8388608) ∧ Q (.lst (rngL i j))) := by
  show W (if -8388608 ≤ i ∧ i ≤ 8388608 ∧ -8388608 ≤ j ∧ j ≤ 8388608 then R.ok (D.lst (rngL i j)) else .bad) Q E = _
  rw [W_need]; rfl
section
variable {env : List D} {Q : D → Prop} {E1 : D → Prop}
theorem W_gS {x : D} {i : Nat} : W (getE (x :: env) (i + 1)) Q E1 = W (getE env i) Q E1 := rfl
theorem W_g_un : W (getE (.un :: env) 0) Q E1 = False := rfl
theorem W_g_non : W (getE ((.non : D) :: env) 0) Q E1 = Q (.non) := rfl
theorem W_g_bl {b : Bool} : W (getE ((.bl b : D) :: env) 0) Q E1 = Q (.bl b) := rfl
theorem W_g_int {i : Int} : W (getE ((.int i : D) :: env) 0) Q E1 = Q (.int i) := rfl
theorem W_g_str {a : List Nat} : W (getE ((.str a : D) :: env) 0) Q E1 = Q (.str a) := rfl
theorem W_g_tup {a : List D} : W (getE ((.tup a : D) :: env) 0) Q E1 = Q (.tup a) := rfl
theorem W_g_lst {a : List D} : W (getE ((.lst a : D) :: env) 0) Q E1 = Q (.lst a) := rfl
theorem W_g_dct {t : Bool} {a b : List D} : W (getE ((.dct t a b : D) :: env) 0) Q E1 = Q (.dct t a b) := rfl
theorem W_g_ins {c : Nat} {a : List Nat} {b : List D} : W (getE ((.ins c a b : D) :: env) 0) Q E1 = Q (.ins c a b) := rfl
theorem W_g_scr {a : List Int} : W (getE ((.scr a : D) :: env) 0) Q E1 = Q (.scr a) := rfl
theorem W_isi_non_int : W (isiD (.non) [.int]) Q E1 = Q (.bl false) := rfl
theorem W_isi_non_bool : W (isiD (.non) [.bool]) Q E1 = Q (.bl false) := rfl
theorem W_isi_non_str : W (isiD (.non) [.str]) Q E1 = Q (.bl false) := rfl
theorem W_isi_non_list : W (isiD (.non) [.list]) Q E1 = Q (.bl false) := rfl
theorem W_isi_non_tuple : W (isiD (.non) [.tuple]) Q E1 = Q (.bl false) := rfl
theorem W_isi_bl_int {b : Bool} : W (isiD (.bl b) [.int]) Q E1 = Q (.bl true) := rfl
theorem W_isi_bl_bool {b : Bool} : W (isiD (.bl b) [.bool]) Q E1 = Q (.bl true) := rfl
theorem W_isi_bl_str {b : Bool} : W (isiD (.bl b) [.str]) Q E1 = Q (.bl false) := rfl
theorem W_isi_bl_list {b : Bool} : W (isiD (.bl b) [.list]) Q E1 = Q (.bl false) := rfl
theorem W_isi_bl_tuple {b : Bool} : W (isiD (.bl b) [.tuple]) Q E1 = Q (.bl false) := rfl
theorem W_isi_int_int {i : Int} : W (isiD (.int i) [.int]) Q E1 = Q (.bl true) := rfl
theorem W_isi_int_bool {i : Int} : W (isiD (.int i) [.bool]) Q E1 = Q (.bl false) := rfl
theorem W_isi_int_str {i : Int} : W (isiD (.int i) [.str]) Q E1 = Q (.bl false) := rfl
theorem W_isi_int_list {i : Int} : W (isiD (.int i) [.list]) Q E1 = Q (.bl false) := rfl
theorem W_isi_int_tuple {i : Int} : W (isiD (.int i) [.tuple]) Q E1 = Q (.bl false) := rfl
theorem W_isi_str_int {a : List Nat} : W (isiD (.str a) [.int]) Q E1 = Q (.bl false) := rfl
theorem W_isi_str_bool {a : List Nat} : W (isiD (.str a) [.bool]) Q E1 = Q (.bl false) := rfl
theorem W_isi_str_str {a : List Nat} : W (isiD (.str a) [.str]) Q E1 = Q (.bl true) := rfl
theorem W_isi_str_list {a : List Nat} : W (isiD (.str a) [.list]) Q E1 = Q (.bl false) := rfl
theorem W_isi_str_tuple {a : List Nat} : W (isiD (.str a) [.tuple]) Q E1 = Q (.bl false) := rfl
theorem W_isi_tup_int {a : List D} : W (isiD (.tup a) [.int]) Q E1 = Q (.bl false) := rfl
theorem W_isi_tup_bool {a : List D} : W (isiD (.tup a) [.bool]) Q E1 = Q (.bl false) := rfl
theorem W_isi_tup_str {a : List D} : W (isiD (.tup a) [.str]) Q E1 = Q (.bl false) := rfl
theorem W_isi_tup_list {a : List D} : W (isiD (.tup a) [.list]) Q E1 = Q (.bl false) := rfl
theorem W_isi_tup_tuple {a : List D} : W (isiD (.tup a) [.tuple]) Q E1 = Q (.bl true) := rfl
theorem W_isi_lst_int {a : List D} : W (isiD (.lst a) [.int]) Q E1 = Q (.bl false) := rfl
theorem W_isi_lst_bool {a : List D} : W (isiD (.lst a) [.bool]) Q E1 = Q (.bl false) := rfl
theorem W_isi_lst_str {a : List D} : W (isiD (.lst a) [.str]) Q E1 = Q (.bl false) := rfl
theorem W_isi_lst_list {a : List D} : W (isiD (.lst a) [.list]) Q E1 = Q (.bl true) := rfl
theorem W_isi_lst_tuple {a : List D} : W (isiD (.lst a) [.tuple]) Q E1 = Q (.bl false) := rfl
theorem W_isi_ins_int {c : Nat} {a : List Nat} {b : List D} : W (isiD (.ins c a b) [.int]) Q E1 = Q (.bl false) := rfl
theorem W_isi_ins_bool {c : Nat} {a : List Nat} {b : List D} : W (isiD (.ins c a b) [.bool]) Q E1 = Q (.bl false) := rfl
theorem W_isi_ins_str {c : Nat} {a : List Nat} {b : List D} : W (isiD (.ins c a b) [.str]) Q E1 = Q (.bl false) := rfl
theorem W_isi_ins_list {c : Nat} {a : List Nat} {b : List D} : W (isiD (.ins c a b) [.list]) Q E1 = Q (.bl false) := rfl
theorem W_isi_ins_tuple {c : Nat} {a : List Nat} {b : List D} : W (isiD (.ins c a b) [.tuple]) Q E1 = Q (.bl false) := rfl
theorem W_att_cons {c g f : Nat} {fs : List Nat} {v : D} {vs : List D} : W (attD (.ins c (g :: fs) (v :: vs)) f) Q E1 = if g = f then Q v else W (attD (.ins c fs vs) f) Q E1 := by
  by_cases h : g = f <;> simp [attD, fget, h]
  · rfl
theorem WO_setFc {s : Sf} {c f : Nat} {fs : List Nat} {vs : List D} {e : E} {P : Po} : WO (exec (.setF f e) s (.ins c fs vs :: env)) P = W (ev e s (.ins c fs vs :: env)) (fun d => fs.length < 900 ∧ P.nx (.ins c (fputF fs f) (fputV fs vs f d) :: env)) P.ex := by
  show VO _ _ = V _ _ _
  simp only [exec, VO_toO, List.getElem?_cons_zero, List.set_cons_zero]
  congr 1; funext d
  by_cases h : fs.length < 900 <;> simp [h, VO]
end
section
variable {Q : D → Prop} {E1 : D → Prop}
theorem W_lenL {a : List D} : W (bltD .len [.lst a]) Q E1 = Q (.int a.length) := rfl
theorem W_lenT {a : List D} : W (bltD .len [.tup a]) Q E1 = Q (.int a.length) := rfl
theorem W_lenC {a : List Int} : W (bltD .len [.scr a]) Q E1 = Q (.int a.length) := rfl
theorem W_intI {i : Int} : W (bltD .int [.int i]) Q E1 = Q (.int i) := rfl
theorem W_listL {a : List D} : W (bltD .list [.lst a]) Q E1 = Q (.lst a) := rfl
theorem W_listT {a : List D} : W (bltD .list [.tup a]) Q E1 = Q (.lst a) := rfl
theorem W_tupL {a : List D} : W (bltD .tuple [.lst a]) Q E1 = Q (.tup a) := rfl
theorem W_tupT {a : List D} : W (bltD .tuple [.tup a]) Q E1 = Q (.tup a) := rfl
theorem W_min2 {i j : Int} : W (bltD .min [.int i, .int j]) Q E1 = Q (.int (if j < i then j else i)) := rfl
theorem W_max2 {i j : Int} : W (bltD .max [.int i, .int j]) Q E1 = Q (.int (if i < j then j else i)) := rfl
theorem W_absI {i : Int} : W (bltD .abs [.int i]) Q E1 = Q (.int (if i < 0 then -i else i)) := rfl
theorem W_sortL {a : List D} : W (bltD .sorted [.lst a]) Q E1 = W (sortD a) Q E1 := rfl
end
theorem isCls_ins {c d : Nat} {fs : List Nat} {vs : List D} : isCls c (.ins d fs vs) = (c == d) := rfl
theorem W_xatI {c f : Nat} {fs : List Nat} {vs : List D} {Q : D → Prop} {E : D → Prop} : W (xatD (.ins c fs vs) f) Q E = ∃ x, fget fs vs f = some x ∧ Q x := V_of
theorem W_xisI {c k : Nat} {fs : List Nat} {vs : List D} {Q : D → Prop} {E : D → Prop} : W (xisD (.ins c fs vs) k) Q E = Q (.bl (hitX k c)) := rfl
theorem W_rvsL {xs : List D} {Q : D → Prop} {E : D → Prop} : W (rvsD (.lst xs)) Q E = Q (.lst xs.reverse) := rfl
/-- a call that raises -/
theorem RnX {np ns rt : Nat} {md : List Nat} {body : List S} {args : List D} {x : D} (hl : args.length = np)
    (h : WO (execs body (fun _ => .bad) (args ++ List.replicate (ns - np) .un)) ⟨fun _ => False, fun _ => False, fun _ => False, fun _ => False, fun d => d = x⟩) :
    run (.mk np ns md rt 0 false body) args = .exc x := by
  have q : V (run (.mk np ns md rt 0 false body) args) (fun _ => False) (fun d => d = x) := (V_run hl).mpr h
  cases e : run (.mk np ns md rt 0 false body) args with
  | ok d => rw [e] at q; exact q.elim
  | exc d => rw [e] at q; obtain rfl : d = x := q; rfl
  | bad => rw [e] at q; exact q.elim
/-- from a known exception -/
theorem W.byX {a : Type} {r : R a} {d : D} {Q : a → Prop} {E : D → Prop} (h : r = .exc d) (q : E d) : W r Q E := by subst h; exact q
theorem W_muApp {xs : List D} {y : D} {Q : D → Prop} {E : D → Prop} : W (muD .app [y] (.lst xs)) Q E = (xs.length < LIM ∧ Q (.lst (xs ++ [y]))) := by
  show W (if xs.length < LIM then R.ok (D.lst (xs ++ [y])) else .bad) Q E = _
  rw [W_need]; rfl
theorem W_muDct {tk : Bool} {ks vs : List D} {k y : D} {Q : D → Prop} {E : D → Prop} : W (muD .put [k, y] (.dct tk ks vs)) Q E = ((keyD tk k && decide (ks.length < LIM)) = true ∧ Q (.dct tk (dputK ks k) (dputV ks vs k y))) := by
  show W (if (keyD tk k && decide (ks.length < LIM)) = true then R.ok (D.dct tk (dputK ks k) (dputV ks vs k y)) else .bad) Q E = _
  rw [W_need]; rfl
theorem ite_pp {c : Prop} [Decidable c] {p q : Prop} : (if c then p else q) = ((c → p) ∧ (¬c → q)) := by by_cases h : c <;> simp [h]
theorem ite_bl {b : Bool} {p q : Prop} : (if b = true then p else q) = ((b = true → p) ∧ (b = false → q)) := by cases b <;> simp
theorem ite_bf {b : Bool} {p q : Prop} : (if b = false then p else q) = ((b = false → p) ∧ (b = true → q)) := by cases b <;> simp
end Mp

/-! Pl1: the rules of names for items -/
namespace Mp
def nmaD : D → D → R D
  | .int j, .lst xs => R.of (atL xs j)
  | _, _ => .bad
def aljD : D → D → R D
  | .int j, .lst _ => .ok (.int j)
  | _, _ => .bad
def aliD : D → D → Option Nat
  | .lst xs, .int z => ixL xs.length z
  | _, _ => none
section
variable {s : Sf} {env : List D} {E' : D → Prop} {Q : D → Prop} {P : Po}
theorem W_nma {i b : Nat} : W (ev (.nma i b) s env) Q E' = W (getE env i) (fun x => W (getE env b) (fun d => W (nmaD x d) Q E') E') E' := by
  show V _ _ _ = V _ (fun x => V _ (fun d => V _ _ _) _) _
  simp only [ev, getE]
  cases env[i]? with
  | none => rfl
  | some x =>
    cases x <;> first | rfl | (cases env[b]? with
      | none => rfl
      | some d => cases d <;> rfl)
theorem W_alj {i b : Nat} : W (ev (.alj i b) s env) Q E' = W (getE env i) (fun x => W (getE env b) (fun d => W (aljD x d) Q E') E') E' := by
  show V _ _ _ = V _ (fun x => V _ (fun d => V _ _ _) _) _
  simp only [ev, getE]
  cases env[i]? with
  | none => rfl
  | some x =>
    cases x <;> first | rfl | (cases env[b]? with
      | none => rfl
      | some d => cases d <;> rfl)
theorem WO_ali {i b : Nat} {e : E} : WO (exec (.ali i b e) s env) P = W (getE env b) (fun d => W (ev e s env) (fun k => ∃ j : Nat, aliD d k = some j ∧ P.nx (env.set i (.int j))) P.ex) P.ex := by
  show VO _ _ = V _ (fun d => V _ _ _) _
  simp only [exec, VO_toO]
  congr 1; funext d; congr 1; funext k
  cases d <;> cases k <;> simp only [aliD, VO, reduceCtorEq, false_and, exists_false]
  rename_i xs z
  cases ixL xs.length z <;> simp [VO]
theorem W_nmaD {a : Type} [Inhabited a] {l : List a} {f : a → D} {i : Int} : W (nmaD (.int i) (.lst (l.map f))) Q E' = (inB l.length i ∧ Q (f (getA l i))) := by
  rw [← V_ixL]; rfl
theorem W_aljD {xs : List D} {i : Int} : W (aljD (.int i) (.lst xs)) Q E' = Q (.int i) := rfl
theorem aliD_nat {xs : List D} {i : Int} (k : Nat) (h : i = (k : Int)) (hk : k < xs.length) : aliD (.lst xs) (.int i) = some k := ixL_nat h hk
theorem W_ix60 {a b c d e f : D} : W (ixD (.tup [a, b, c, d, e, f]) (.int 0)) Q E' = Q a := rfl
theorem W_ix61 {a b c d e f : D} : W (ixD (.tup [a, b, c, d, e, f]) (.int 1)) Q E' = Q b := rfl
theorem W_ix62 {a b c d e f : D} : W (ixD (.tup [a, b, c, d, e, f]) (.int 2)) Q E' = Q c := rfl
theorem W_ix63 {a b c d e f : D} : W (ixD (.tup [a, b, c, d, e, f]) (.int 3)) Q E' = Q d := rfl
theorem W_ix64 {a b c d e f : D} : W (ixD (.tup [a, b, c, d, e, f]) (.int 4)) Q E' = Q e := rfl
theorem W_ix65 {a b c d e f : D} : W (ixD (.tup [a, b, c, d, e, f]) (.int 5)) Q E' = Q f := rfl
end
end Mp

namespace MpP
open Mp
abbrev X_BadNet : Nat := 0
abbrev X_RoadsCross : Nat := 1
abbrev X_NoRoad : Nat := 2
def F__law_cell : Mp.F := .mk 2 2 [1, 9] 0 0 false [
  .ifs (.cmp .lt (.nm 1) (.blt .len [(.nm 0)])) [
    .ret (.ix (.nm 0) (.nm 1))] [],
  .ret (.cst (.int 0))]
def F__law_draws_b1 : List Mp.S := [
  .ifs (.cmp .gt (.nm 2) (.cst (.int 0))) [
    .app 3 [] (.bin .mod (.blt .int [(.nm 2)]) (.cst (.int 1000)))] [
    .set 5 (.bin .mod (.blt .int [(.bin .add (.bin .add (.nm 0) (.bin .mul (.cst (.int 7919)) (.nm 4))) (.cst (.int 13)))]) (.cst (.int 2147483647))),
    .set 5 (.bin .mod (.blt .int [(.bin .mul (.nm 5) (.bin .add (.nm 5) (.cst (.int 48271))))]) (.cst (.int 2147483629))),
    .set 5 (.bin .mod (.blt .int [(.bin .add (.bin .mul (.nm 5) (.bin .add (.nm 5) (.cst (.int 69621)))) (.bin .mul (.cst (.int 31)) (.nm 4)))]) (.cst (.int 2147483647))),
    .app 3 [] (.blt .int [(.bin .fdiv (.nm 5) (.cst (.int 9)))])],
  .set 2 (.bin .fdiv (.nm 2) (.cst (.int 1000)))]
def F__law_draws : Mp.F := .mk 2 6 [0, 9] 3 0 false [
  .set 2 (.cst (.int 0)),
  .ifs (.cmp .ge (.nm 0) (.bin .pow (.cst (.int 10)) (.cst (.int 18)))) [
    .set 2 (.nm 0)] [],
  .set 3 (.lstE []),
  .for_ [4] (.rng (.cst (.int 0)) (.nm 1)) F__law_draws_b1,
  .ret (.nm 3)]
def F__law_widths_e1 : Mp.E := (.bin .add (.cst (.int 1)) (.bin .fdiv (.bin .add (.bin .mod (.blt .int [(.ix (.nm 0) (.bin .add (.cst (.int 2)) (.nm 4)))]) (.cst (.int 5))) (.cst (.int 1))) (.cst (.int 2))))
def F__law_widths_e2 : Mp.E := (.bin .add (.cst (.int 1)) (.bin .fdiv (.bin .add (.bin .mod (.blt .int [(.ix (.nm 0) (.bin .add (.cst (.int 2)) (.nm 4)))]) (.cst (.int 5))) (.cst (.int 1))) (.cst (.int 2))))
def F__law_widths_e3 : Mp.E := (.bin .add (.cst (.int 1)) (.bin .mod (.blt .int [(.ix (.nm 0) (.bin .add (.cst (.int 2)) (.nm 4)))]) (.cst (.int 8))))
def F__law_widths_e4 : Mp.E := (.bin .add (.cst (.int 1)) (.bin .mod (.blt .int [(.ix (.nm 0) (.bin .add (.cst (.int 2)) (.nm 4)))]) (.cst (.int 4))))
def F__law_widths_e5 : Mp.E := (.bin .add (.cst (.int 1)) (.bin .fdiv (.bin .add (.bin .mod (.blt .int [(.ix (.nm 0) (.bin .add (.cst (.int 2)) (.nm 4)))]) (.cst (.int 7))) (.cst (.int 1))) (.cst (.int 2))))
def F__law_widths : Mp.F := .mk 2 5 [9, 9] 2 0 false [
  .set 2 (.bin .mod (.blt .int [(.ix (.nm 0) (.cst (.int 1)))]) (.cst (.int 12))),
  .set 3 (.blt .int [(.ix (.nm 0) (.cst (.int 0)))]),
  .ifs (.nm 1) [
    .ret (.lc F__law_widths_e1 [4] (.rng (.cst (.int 0)) (.bin .add (.cst (.int 2)) (.bin .fdiv (.bin .add (.bin .mod (.nm 3) (.cst (.int 7))) (.cst (.int 2))) (.cst (.int 3))))) [])] [],
  .ifs (.cmp .eq (.nm 2) (.cst (.int 11))) [
    .ret (.lc F__law_widths_e2 [4] (.rng (.cst (.int 0)) (.bin .add (.cst (.int 5)) (.bin .mod (.nm 3) (.cst (.int 8))))) [])] [],
  .ifs (.cmp .eq (.nm 2) (.cst (.int 10))) [
    .ret (.lc F__law_widths_e3 [4] (.rng (.cst (.int 0)) (.bin .add (.cst (.int 1)) (.bin .mod (.nm 3) (.cst (.int 4))))) [])] [],
  .ifs (.cmp .eq (.nm 2) (.cst (.int 9))) [
    .ret (.lc F__law_widths_e4 [4] (.rng (.cst (.int 0)) (.ix (.lstE [(.cst (.int 1)), (.cst (.int 5)), (.cst (.int 6)), (.cst (.int 7)), (.cst (.int 8))]) (.bin .mod (.nm 3) (.cst (.int 5))))) [])] [],
  .ret (.lc F__law_widths_e5 [4] (.rng (.cst (.int 0)) (.bin .add (.cst (.int 3)) (.bin .mod (.nm 3) (.cst (.int 3))))) [])]
def F__law_price : Mp.F := .mk 2 2 [9, 9] 3 0 false [
  .ifs (.cmp .lt (.nm 0) (.cst (.int 6))) [
    .ret (.cst (.int 0))] [],
  .ifs (.cmp .eq (.nm 0) (.cst (.int 6))) [
    .ret (.bin .mod (.blt .int [(.nm 1)]) (.cst (.int 2)))] [],
  .ifs (.cmp .eq (.nm 0) (.cst (.int 7))) [
    .ret (.bin .sub (.cst (.int 0)) (.bin .fdiv (.blt .int [(.nm 1)]) (.cst (.int 40))))] [],
  .ifs (.cmp .eq (.nm 0) (.cst (.int 8))) [
    .ret (.blt .int [(.nm 1)])] [],
  .ret (.bin .sub (.cst (.int 1000000)) (.bin .mul (.bin .fdiv (.blt .int [(.nm 1)]) (.cst (.int 30))) (.cst (.int 2000000))))]
def F__law_roads_b1 : List Mp.S := [
  .ifs (.cmp .gt (.bin .mod (.blt .int [(.ix (.nm 1) (.nm 5))]) (.cst (.int 10))) (.cst (.int 0))) [
    .app 3 [] (.tupE [(.bin .add (.nm 4) (.nm 7)), (.bin .add (.nm 9) (.nm 8)), (.call F__law_price [(.nm 2), (.bin .mod (.bin .fdiv (.blt .int [(.ix (.nm 1) (.nm 5))]) (.cst (.int 20))) (.cst (.int 50)))])])] [],
  .ifs (.bop true [(.cmp .lt (.bin .add (.nm 7) (.cst (.int 1))) (.ix (.nm 0) (.nm 6))), (.bop false [(.cmp .eq (.bin .mod (.bin .fdiv (.blt .int [(.ix (.nm 1) (.nm 5))]) (.cst (.int 10))) (.cst (.int 2))) (.cst (.int 0))), (.cmp .eq (.bin .add (.nm 8) (.cst (.int 1))) (.ix (.nm 0) (.bin .add (.nm 6) (.cst (.int 1)))))])]) [
    .set 7 (.bin .add (.nm 7) (.cst (.int 1)))] [
    .set 8 (.bin .add (.nm 8) (.cst (.int 1)))],
  .set 5 (.bin .add (.nm 5) (.cst (.int 1)))]
def F__law_roads_b2 : List Mp.S := [
  .set 7 (.cst (.int 0)),
  .set 8 (.cst (.int 0)),
  .set 9 (.bin .add (.nm 4) (.ix (.nm 0) (.nm 6))),
  .for_ [10] (.rng (.cst (.int 0)) (.bin .sub (.bin .add (.ix (.nm 0) (.nm 6)) (.ix (.nm 0) (.bin .add (.nm 6) (.cst (.int 1))))) (.cst (.int 1)))) F__law_roads_b1,
  .set 4 (.nm 9)]
def F__law_roads : Mp.F := .mk 2 11 [2, 9] 3 0 false [
  .set 2 (.bin .mod (.blt .int [(.ix (.nm 1) (.cst (.int 14)))]) (.cst (.int 10))),
  .set 3 (.lstE []),
  .set 4 (.cst (.int 0)),
  .set 5 (.cst (.int 15)),
  .for_ [6] (.rng (.cst (.int 0)) (.bin .sub (.blt .len [(.nm 0)]) (.cst (.int 1)))) F__law_roads_b2,
  .ret (.nm 3)]
def F__law_mixed_b1 : List Mp.S := [
  .apop 3 2 (.bin .mod (.blt .int [(.ix (.nm 1) (.nm 4))]) (.blt .len [(.nm 2)]))]
def F__law_mixed : Mp.F := .mk 2 5 [1, 9] 1 0 false [
  .set 2 (.blt .list [(.nm 0)]),
  .set 3 (.lstE []),
  .for_ [4] (.rng (.cst (.int 0)) (.blt .len [(.nm 0)])) F__law_mixed_b1,
  .ret (.nm 3)]
def F__law_new_road : Mp.F := .mk 4 12 [1, 1, 9, 1] 3 0 false [
  .set 4 (.blt .sum [(.nm 0)]),
  .set 5 (.bin .mod (.blt .int [(.ix (.nm 2) (.nm 3))]) (.cst (.int 16))),
  .set 6 (.lstE [(.bin .sub (.bin .sub (.cst (.int 0)) (.cst (.int 1))) (.bin .mod (.blt .int [(.ix (.nm 2) (.bin .add (.nm 3) (.cst (.int 3))))]) (.bin .add (.nm 4) (.cst (.int 3))))), (.nm 4), (.bin .add (.nm 4) (.cst (.int 3)))]),
  .set 7 (.bin .sub (.bin .mod (.blt .int [(.ix (.nm 2) (.bin .add (.nm 3) (.cst (.int 4))))]) (.cst (.int 2000001))) (.cst (.int 1000000))),
  .ifs (.cmp .eq (.nm 5) (.cst (.int 0))) [
    .ret (.tupE [(.ix (.nm 6) (.bin .mod (.blt .int [(.ix (.nm 2) (.bin .add (.nm 3) (.cst (.int 1))))]) (.cst (.int 3)))), (.bin .mod (.blt .int [(.ix (.nm 2) (.bin .add (.nm 3) (.cst (.int 2))))]) (.nm 4)), (.nm 7)])] [],
  .ifs (.cmp .eq (.nm 5) (.cst (.int 1))) [
    .ret (.tupE [(.bin .mod (.blt .int [(.ix (.nm 2) (.bin .add (.nm 3) (.cst (.int 1))))]) (.nm 4)), (.ix (.nm 6) (.bin .mod (.blt .int [(.ix (.nm 2) (.bin .add (.nm 3) (.cst (.int 2))))]) (.cst (.int 3)))), (.nm 7)])] [],
  .ifs (.bop true [(.cmp .eq (.nm 5) (.cst (.int 2))), (.cmp .gt (.blt .len [(.nm 1)]) (.cst (.int 0)))]) [
    .set 8 (.ix (.nm 1) (.bin .mod (.blt .int [(.ix (.nm 2) (.bin .add (.nm 3) (.cst (.int 1))))]) (.blt .len [(.nm 1)]))),
    .ret (.tupE [(.ix (.nm 8) (.cst (.int 0))), (.ix (.nm 8) (.cst (.int 1))), (.ix (.lstE [(.ix (.nm 8) (.cst (.int 2))), (.nm 7)]) (.bin .mod (.blt .int [(.ix (.nm 2) (.bin .add (.nm 3) (.cst (.int 2))))]) (.cst (.int 2))))])] [],
  .ifs (.bop true [(.cmp .gt (.nm 5) (.cst (.int 3))), (.cmp .gt (.blt .len [(.nm 0)]) (.cst (.int 1)))]) [
    .set 9 (.bin .mod (.blt .int [(.ix (.nm 2) (.bin .add (.nm 3) (.cst (.int 1))))]) (.bin .sub (.blt .len [(.nm 0)]) (.cst (.int 1)))),
    .set 10 (.blt .sum [(.sl (.nm 0) [] [(.nm 9)])]),
    .set 11 (.bin .add (.nm 10) (.ix (.nm 0) (.nm 9))),
    .ret (.tupE [(.bin .add (.nm 10) (.bin .mod (.blt .int [(.ix (.nm 2) (.bin .add (.nm 3) (.cst (.int 2))))]) (.ix (.nm 0) (.nm 9)))), (.bin .add (.nm 11) (.bin .mod (.blt .int [(.ix (.nm 2) (.bin .add (.nm 3) (.cst (.int 3))))]) (.ix (.nm 0) (.bin .add (.nm 9) (.cst (.int 1)))))), (.nm 7)])] [],
  .ret (.tupE [(.bin .mod (.blt .int [(.ix (.nm 2) (.bin .add (.nm 3) (.cst (.int 1))))]) (.nm 4)), (.bin .mod (.blt .int [(.ix (.nm 2) (.bin .add (.nm 3) (.cst (.int 2))))]) (.nm 4)), (.nm 7)])]
def F__law_rows_b1 : List Mp.S := [
  .set 1 (.bin .add (.nm 1) (.bin .mul (.lstE [(.nm 2)]) (.ix (.nm 0) (.nm 2))))]
def F__law_rows : Mp.F := .mk 1 3 [9] 1 0 false [
  .set 1 (.lstE []),
  .for_ [2] (.rng (.cst (.int 0)) (.blt .len [(.nm 0)])) F__law_rows_b1,
  .ret (.nm 1)]
def F__law_scan_b1 : List Mp.S := [
  .ifs (.bop true [(.cmp .eq (.ix (.ix (.nm 1) (.nm 4)) (.cst (.int 0))) (.ix (.nm 3) (.cst (.int 0)))), (.cmp .eq (.ix (.ix (.nm 1) (.nm 4)) (.cst (.int 1))) (.ix (.nm 3) (.cst (.int 1))))]) [
    .ret (.tupE [(.cst (.str [66, 97, 100, 78, 101, 116])), (.nm 2)])] []]
def F__law_scan_b2 : List Mp.S := [
  .set 5 (.ix (.nm 1) (.nm 4)),
  .ifs (.bop true [(.cmp .eq (.ix (.nm 0) (.ix (.nm 5) (.cst (.int 0)))) (.ix (.nm 0) (.ix (.nm 3) (.cst (.int 0))))), (.cmp .lt (.bin .mul (.bin .sub (.ix (.nm 5) (.cst (.int 0))) (.ix (.nm 3) (.cst (.int 0)))) (.bin .sub (.ix (.nm 5) (.cst (.int 1))) (.ix (.nm 3) (.cst (.int 1))))) (.cst (.int 0)))]) [
    .ret (.tupE [(.cst (.str [82, 111, 97, 100, 115, 67, 114, 111, 115, 115])), (.nm 4), (.nm 2)])] []]
def F__law_scan_b3 : List Mp.S := [
  .set 3 (.ix (.nm 1) (.nm 2)),
  .ifs (.bop false [(.cmp .lt (.ix (.nm 3) (.cst (.int 0))) (.cst (.int 0))), (.cmp .ge (.ix (.nm 3) (.cst (.int 0))) (.blt .len [(.nm 0)])), (.cmp .lt (.ix (.nm 3) (.cst (.int 1))) (.cst (.int 0))), (.cmp .ge (.ix (.nm 3) (.cst (.int 1))) (.blt .len [(.nm 0)]))]) [
    .ret (.tupE [(.cst (.str [66, 97, 100, 78, 101, 116])), (.nm 2)])] [],
  .ifs (.cmp .ne (.ix (.nm 0) (.ix (.nm 3) (.cst (.int 1)))) (.bin .add (.ix (.nm 0) (.ix (.nm 3) (.cst (.int 0)))) (.cst (.int 1)))) [
    .ret (.tupE [(.cst (.str [66, 97, 100, 78, 101, 116])), (.nm 2)])] [],
  .for_ [4] (.rng (.cst (.int 0)) (.nm 2)) F__law_scan_b1,
  .for_ [4] (.rng (.cst (.int 0)) (.nm 2)) F__law_scan_b2]
def F__law_scan : Mp.F := .mk 2 6 [2, 1] 3 0 false [
  .for_ [2] (.rng (.cst (.int 0)) (.blt .len [(.nm 1)])) F__law_scan_b3,
  .ret (.cst .non)]
def F_starts_of_b1 : List Mp.S := [
  .app 1 [] (.bin .add (.ix (.nm 1) (.neg (.cst (.int 1)))) (.nm 2))]
def F_starts_of : Mp.F := .mk 1 3 [1] 3 0 false [
  .set 1 (.lstE [(.cst (.int 0))]),
  .for_ [2] (.nm 0) F_starts_of_b1,
  .ret (.blt .tuple [(.nm 1)])]
def F_rows_of_b1 : List Mp.S := [
  .app 1 [] (.nm 2)]
def F_rows_of_b2 : List Mp.S := [
  .for_ [3] (.rng (.ix (.nm 0) (.nm 2)) (.ix (.nm 0) (.bin .add (.nm 2) (.cst (.int 1))))) F_rows_of_b1]
def F_rows_of : Mp.F := .mk 1 4 [9] 3 0 false [
  .set 1 (.lstE []),
  .for_ [2] (.rng (.cst (.int 0)) (.bin .sub (.blt .len [(.nm 0)]) (.cst (.int 1)))) F_rows_of_b2,
  .ret (.blt .tuple [(.nm 1)])]
def F_joins_rows : Mp.F := .mk 2 2 [2, 9] 3 0 false [
  .ifs (.bop false [(.cmp .lt (.ix (.nm 1) (.cst (.int 0))) (.cst (.int 0))), (.cmp .ge (.ix (.nm 1) (.cst (.int 0))) (.blt .len [(.nm 0)])), (.cmp .lt (.ix (.nm 1) (.cst (.int 1))) (.cst (.int 0))), (.cmp .ge (.ix (.nm 1) (.cst (.int 1))) (.blt .len [(.nm 0)]))]) [
    .ret (.cst (.bl false))] [],
  .ret (.cmp .eq (.ix (.nm 0) (.ix (.nm 1) (.cst (.int 1)))) (.bin .add (.ix (.nm 0) (.ix (.nm 1) (.cst (.int 0)))) (.cst (.int 1))))]
def F_is_double_e1 : Mp.E := (.tupE [(.ix (.nm 2) (.cst (.int 0))), (.ix (.nm 2) (.cst (.int 1)))])
def F_is_double : Mp.F := .mk 2 3 [1, 1] 3 0 false [
  .ret (.cmp .mem (.tupE [(.ix (.nm 1) (.cst (.int 0))), (.ix (.nm 1) (.cst (.int 1)))]) (.lc F_is_double_e1 [2] (.nm 0) []))]
def F_do_cross : Mp.F := .mk 2 2 [9, 9] 0 0 false [
  .ifs (.cmp .lt (.ix (.nm 0) (.cst (.int 0))) (.ix (.nm 1) (.cst (.int 0)))) [
    .ret (.cmp .gt (.ix (.nm 0) (.cst (.int 1))) (.ix (.nm 1) (.cst (.int 1))))] [],
  .ret (.bop true [(.cmp .gt (.ix (.nm 0) (.cst (.int 0))) (.ix (.nm 1) (.cst (.int 0)))), (.cmp .lt (.ix (.nm 0) (.cst (.int 1))) (.ix (.nm 1) (.cst (.int 1))))])]
def F_first_crossed_b1 : List Mp.S := [
  .ifs (.call F_do_cross [(.ix (.nm 0) (.nm 2)), (.nm 1)]) [
    .ret (.nm 2)] []]
def F_first_crossed : Mp.F := .mk 2 3 [9, 9] 0 0 false [
  .for_ [2] (.rng (.cst (.int 0)) (.blt .len [(.nm 0)])) F_first_crossed_b1,
  .ret (.cst .non)]
def F_check_roads_b1 : List Mp.S := [
  .ifs (.bop false [(.nt (.call F_joins_rows [(.nm 2), (.ix (.nm 1) (.nm 3))])), (.call F_is_double [(.sl (.nm 1) [] [(.nm 3)]), (.ix (.nm 1) (.nm 3))])]) [
    .rse X_BadNet [0] [true] [(.nm 3)]] [],
  .set 4 (.call F_first_crossed [(.sl (.nm 1) [] [(.nm 3)]), (.ix (.nm 1) (.nm 3))]),
  .ifs (.isn (.nm 4) true) [
    .rse X_RoadsCross [1, 2] [true, true] [(.nm 4), (.nm 3)]] []]
def F_check_roads : Mp.F := .mk 2 5 [9, 1] 3 0 false [
  .set 2 (.call F_rows_of [(.nm 0)]),
  .for_ [3] (.rng (.cst (.int 0)) (.blt .len [(.nm 1)])) F_check_roads_b1]
def F_links_of_e1 : Mp.E := (.lstE [])
def F_links_of_b2 : List Mp.S := [
  .app 2 [(.ix (.nm 3) (.cst (.int 0)))] (.ix (.nm 3) (.cst (.int 1)))]
def F_links_of_e3 : Mp.E := (.blt .tuple [(.nm 5)])
def F_links_of : Mp.F := .mk 2 6 [9, 1] 3 0 false [
  .set 2 (.lc F_links_of_e1 [4] (.rng (.cst (.int 0)) (.nm 0)) []),
  .for_ [3] (.nm 1) F_links_of_b2,
  .ret (.blt .tuple [(.lc F_links_of_e3 [5] (.nm 2) [])])]
def F_lower_line_b1 : List Mp.S := [
  .ifs (.bop false [(.isn (.nm 5) false), (.bop true [(.isn (.nm 4) true), (.cmp .le (.nm 4) (.bin .add (.nm 1) (.nm 5)))])]) [
    .app 3 [] (.nm 4)] [
    .app 3 [] (.bin .add (.nm 1) (.nm 5))]]
def F_lower_line : Mp.F := .mk 3 6 [0, 1, 0] 1 0 false [
  .set 3 (.lstE []),
  .for_ [4, 5] (.zipE (.nm 0) (.nm 2)) F_lower_line_b1,
  .ret (.nm 3)]
def F_least_prices_e1 : Mp.E := (.bin .mul (.lstE [(.cst .non)]) (.nm 0))
def F_least_prices_b2 : List Mp.S := [
  .put 2 [(.nm 3)] (.nm 3) (.cst (.int 0))]
def F_least_prices_b3 : List Mp.S := [
  .put 2 [] (.ix (.nm 4) (.cst (.int 0))) (.call F_lower_line [(.ix (.nm 2) (.ix (.nm 4) (.cst (.int 0)))), (.ix (.nm 4) (.cst (.int 2))), (.ix (.nm 2) (.ix (.nm 4) (.cst (.int 1))))])]
def F_least_prices : Mp.F := .mk 2 6 [9, 0] 1 0 false [
  .set 2 (.lc F_least_prices_e1 [5] (.rng (.cst (.int 0)) (.nm 0)) []),
  .for_ [3] (.rng (.cst (.int 0)) (.nm 0)) F_least_prices_b2,
  .for_ [4] (.revE (.nm 1)) F_least_prices_b3,
  .ret (.nm 2)]
def F_pairs_of_e1 : Mp.E := (.lstE [])
def F_pairs_of_b2 : List Mp.S := [
  .ifs (.isn (.ix (.ix (.nm 1) (.nm 3)) (.nm 4)) true) [
    .app 2 [(.bin .sub (.ix (.nm 0) (.nm 4)) (.ix (.nm 0) (.nm 3)))] (.tupE [(.nm 3), (.nm 4)])] []]
def F_pairs_of_b3 : List Mp.S := [
  .for_ [4] (.rng (.bin .add (.nm 3) (.cst (.int 1))) (.blt .len [(.nm 0)])) F_pairs_of_b2]
def F_pairs_of_b4 : List Mp.S := [
  .set 5 (.bin .add (.nm 5) (.nm 6))]
def F_pairs_of : Mp.F := .mk 2 8 [2, 9] 3 0 false [
  .set 2 (.lc F_pairs_of_e1 [7] (.rng (.cst (.int 0)) (.bin .add (.ix (.nm 0) (.neg (.cst (.int 1)))) (.cst (.int 1)))) []),
  .for_ [3] (.rng (.cst (.int 0)) (.blt .len [(.nm 0)])) F_pairs_of_b3,
  .set 5 (.lstE []),
  .for_ [6] (.nm 2) F_pairs_of_b4,
  .ret (.blt .tuple [(.nm 5)])]
def F_Net___init___e1 : Mp.E := (.tupE [(.ix (.nm 6) (.cst (.int 0))), (.ix (.nm 6) (.cst (.int 1))), (.ix (.nm 6) (.cst (.int 2)))])
def F_Net___init___e2 : Mp.E := (.tupE [(.ix (.nm 6) (.cst (.int 0))), (.ix (.nm 6) (.cst (.int 1)))])
def F_Net___init___e3 : Mp.E := (.tupE [(.ix (.nm 6) (.cst (.int 1))), (.ix (.nm 6) (.cst (.int 0)))])
def F_Net___init___e4 : Mp.E := (.tupE [(.ix (.nm 6) (.cst (.int 0))), (.ix (.nm 6) (.cst (.int 1)))])
def F_Net___init___e5 : Mp.E := (.ix (.nm 6) (.cst (.int 2)))
def F_Net___init__ : Mp.F := .mk 3 7 [0, 1, 1] 0 0 true [
  .set 3 (.blt .tuple [(.nm 1)]),
  .set 4 (.blt .tuple [(.lc F_Net___init___e1 [6] (.nm 2) [])]),
  .ifs (.bop false [(.cmp .eq (.blt .len [(.nm 3)]) (.cst (.int 0))), (.cmp .lt (.blt .min [(.nm 3)]) (.cst (.int 1)))]) [
    .rse X_BadNet [0] [true] [(.neg (.cst (.int 1)))]] [],
  .set 5 (.call F_starts_of [(.nm 3)]),
  .exp (.call F_check_roads [(.nm 5), (.nm 4)]),
  .setF 3 (.nm 3),
  .setF 4 (.blt .tuple [(.blt .sorted [(.nm 4)])]),
  .setF 5 (.nm 5),
  .setF 6 (.ix (.nm 5) (.neg (.cst (.int 1)))),
  .setF 7 (.call F_rows_of [(.nm 5)]),
  .setF 8 (.call F_links_of [(.att (.nm 0) 6), (.lc F_Net___init___e2 [6] (.att (.nm 0) 4) [])]),
  .setF 9 (.call F_links_of [(.att (.nm 0) 6), (.lc F_Net___init___e3 [6] (.att (.nm 0) 4) [])]),
  .setF 10 (.dc true F_Net___init___e4 F_Net___init___e5 [6] (.att (.nm 0) 4)),
  .setF 11 (.call F_least_prices [(.att (.nm 0) 6), (.att (.nm 0) 4)]),
  .setF 12 (.call F_pairs_of [(.att (.nm 0) 7), (.att (.nm 0) 11)])]
def F__law_made_b1 : List Mp.S := [
  .set 2 (.mk 0 F_Net___init__ [(.nm 0), (.nm 1)])]
def F__law_made_h2 : List Mp.S := [
  .ret (.tupE [(.cst (.str [66, 97, 100, 78, 101, 116])), (.xat 3 0)])]
def F__law_made_h3 : List Mp.S := [
  .ret (.tupE [(.cst (.str [82, 111, 97, 100, 115, 67, 114, 111, 115, 115])), (.xat 3 1), (.xat 3 2)])]
def F__law_made : Mp.F := .mk 2 4 [1, 1] 3 0 false [
  .tri F__law_made_b1 [.mk X_BadNet 3 F__law_made_h2, .mk X_RoadsCross 3 F__law_made_h3],
  .ret (.tupE [(.cst (.str [110, 101, 116])), (.att (.nm 2) 3), (.att (.nm 2) 4)])]
def F__law_same_b1 : List Mp.S := [
  .ifs (.nt (.slf [(.ix (.nm 0) (.nm 2)), (.ix (.nm 1) (.nm 2))])) [
    .ret (.cst (.bl false))] []]
def F__law_same : Mp.F := .mk 2 3 [9, 9] 0 8 false [
  .ifs (.isn (.nm 1) false) [
    .ret (.isn (.nm 0) false)] [],
  .ifs (.isi (.nm 1) [.bool]) [
    .ret (.bop true [(.isi (.nm 0) [.bool]), (.cmp .eq (.nm 0) (.nm 1))])] [],
  .ifs (.isi (.nm 1) [.int]) [
    .ret (.bop true [(.isi (.nm 0) [.int]), (.nt (.isi (.nm 0) [.bool])), (.cmp .eq (.nm 0) (.nm 1))])] [],
  .ifs (.isi (.nm 1) [.str]) [
    .ret (.bop true [(.isi (.nm 0) [.str]), (.cmp .eq (.nm 0) (.nm 1))])] [],
  .ifs (.isi (.nm 1) [.list]) [
    .ifs (.bop false [(.nt (.isi (.nm 0) [.list])), (.cmp .ne (.blt .len [(.nm 0)]) (.blt .len [(.nm 1)]))]) [
      .ret (.cst (.bl false))] []] [
    .ifs (.bop false [(.nt (.isi (.nm 0) [.tuple])), (.cmp .ne (.blt .len [(.nm 0)]) (.blt .len [(.nm 1)]))]) [
      .ret (.cst (.bl false))] []],
  .for_ [2] (.rng (.cst (.int 0)) (.blt .len [(.nm 1)])) F__law_same_b1,
  .ret (.cst (.bl true))]
def F__law_kinds_b1 : List Mp.S := [
  .exp (.mk 0 F_Net___init__ [(.nm 0), (.nm 1)])]
def F__law_kinds_h2 : List Mp.S := [
  .ret (.lstE [(.xis 2 998), (.xis 2 X_BadNet), (.xis 2 X_RoadsCross), (.xis 2 X_NoRoad)])]
def F__law_kinds : Mp.F := .mk 2 3 [1, 1] 3 0 false [
  .tri F__law_kinds_b1 [.mk 999 2 F__law_kinds_h2],
  .ret (.lstE [])]
def F_law_b1 : List Mp.S := [
  .set 7 (.bin .mod (.blt .int [(.ix (.nm 2) (.bin .add (.cst (.int 5)) (.bin .mul (.cst (.int 6)) (.nm 6))))]) (.bin .add (.blt .len [(.nm 5)]) (.cst (.int 1)))),
  .set 5 (.bin .add (.bin .add (.sl (.nm 5) [] [(.nm 7)]) (.lstE [(.call F__law_new_road [(.nm 3), (.nm 4), (.nm 2), (.bin .add (.cst (.int 6)) (.bin .mul (.cst (.int 6)) (.nm 6)))])])) (.sl (.nm 5) [(.nm 7)] []))]
def F_law : Mp.F := .mk 1 13 [0] 3 0 false [
  .set 1 (.call F__law_draws [(.call F__law_cell [(.nm 0), (.cst (.int 0))]), (.cst (.int 70))]),
  .set 2 (.call F__law_draws [(.call F__law_cell [(.nm 0), (.cst (.int 2))]), (.cst (.int 17))]),
  .set 3 (.call F__law_widths [(.nm 1), (.cst (.bl false))]),
  .set 4 (.call F__law_mixed [(.call F__law_roads [(.nm 3), (.nm 1)]), (.call F__law_draws [(.call F__law_cell [(.nm 0), (.cst (.int 1))]), (.cst (.int 55))])]),
  .set 5 (.blt .list [(.nm 4)]),
  .for_ [6] (.rng (.cst (.int 0)) (.ix (.lstE [(.cst (.int 0)), (.cst (.int 1)), (.cst (.int 2)), (.cst (.int 2))]) (.bin .mod (.blt .int [(.ix (.nm 2) (.cst (.int 0)))]) (.cst (.int 4))))) F_law_b1,
  .set 8 (.call F__law_scan [(.call F__law_rows [(.nm 3)]), (.nm 5)]),
  .ifs (.isn (.nm 8) false) [
    .set 8 (.tupE [(.cst (.str [110, 101, 116])), (.blt .tuple [(.nm 3)]), (.blt .tuple [(.blt .sorted [(.nm 5)])])])] [],
  .set 9 (.blt .list [(.nm 3)]),
  .ifs (.cmp .eq (.bin .mod (.blt .int [(.ix (.nm 2) (.cst (.int 1)))]) (.cst (.int 12))) (.cst (.int 0))) [
    .set 8 (.tupE [(.cst (.str [66, 97, 100, 78, 101, 116])), (.neg (.cst (.int 1)))]),
    .set 7 (.bin .mod (.blt .int [(.ix (.nm 2) (.cst (.int 3)))]) (.blt .len [(.nm 3)])),
    .set 9 (.bin .add (.bin .add (.sl (.nm 3) [] [(.nm 7)]) (.lstE [(.bin .sub (.cst (.int 1)) (.bin .mod (.blt .int [(.ix (.nm 2) (.cst (.int 2)))]) (.cst (.int 4))))])) (.sl (.nm 3) [(.bin .add (.nm 7) (.cst (.int 1)))] [])),
    .ifs (.cmp .eq (.bin .mod (.blt .int [(.ix (.nm 2) (.cst (.int 2)))]) (.cst (.int 4))) (.cst (.int 0))) [
      .set 9 (.lstE [])] []] [],
  .set 10 (.blt .list [(.nm 9)]),
  .set 11 (.blt .list [(.nm 5)]),
  .ifs (.cmp .eq (.bin .mod (.blt .int [(.ix (.nm 2) (.cst (.int 4)))]) (.cst (.int 2))) (.cst (.int 0))) [
    .set 12 (.call F__law_made [(.nm 10), (.nm 11)])] [
    .set 12 (.call F__law_made [(.blt .tuple [(.nm 10)]), (.blt .tuple [(.nm 11)])])],
  .ifs (.bop false [(.nt (.call F__law_same [(.nm 12), (.nm 8)])), (.cmp .ne (.nm 10) (.nm 9)), (.cmp .ne (.nm 11) (.nm 5))]) [
    .ret (.cst (.bl false))] [],
  .ifs (.cmp .eq (.ix (.nm 8) (.cst (.int 0))) (.cst (.str [110, 101, 116]))) [
    .ret (.cmp .eq (.call F__law_kinds [(.nm 10), (.nm 11)]) (.lstE []))] [],
  .ret (.cmp .eq (.call F__law_kinds [(.nm 10), (.nm 11)]) (.lstE [(.cst (.bl true)), (.cmp .eq (.ix (.nm 8) (.cst (.int 0))) (.cst (.str [66, 97, 100, 78, 101, 116]))), (.cmp .eq (.ix (.nm 8) (.cst (.int 0))) (.cst (.str [82, 111, 97, 100, 115, 67, 114, 111, 115, 115]))), (.cst (.bl false))]))]
end MpP

/-! PlNat: widths, first places of rows, rows of places, roads: plain mathematics -/
namespace MpL
open Mp
abbrev dN (n : Nat) : D := .int (n : Int)
theorem lim_app {n : Nat} (h : n < 16777216) : n < LIM := h
theorem map_app1 {a : Type} {f : a → D} {l : List a} {x : a} : l.map f ++ [f x] = (l ++ [x]).map f := by rw [List.map_append]; rfl
abbrev Rd := Nat × Nat × Int
abbrev dR (r : Rd) : D := .tup [.int (r.1 : Int), .int (r.2.1 : Int), .int r.2.2]
abbrev dP (p : Nat × Nat) : D := .tup [.int (p.1 : Int), .int (p.2 : Int)]

/-- the first place of row k -/
def S (w : List Nat) (k : Nat) : Nat := (w.take k).sum
theorem S_zero {w : List Nat} : S w 0 = 0 := rfl
theorem S_succ {w : List Nat} {k : Nat} (h : k < w.length) : S w (k + 1) = S w k + w[k] := by
  unfold S
  rw [List.take_succ_eq_append_getElem h, List.sum_append]
  simp
theorem S_all {w : List Nat} {k : Nat} (h : w.length ≤ k) : S w k = w.sum := by
  unfold S
  rw [List.take_of_length_le h]
theorem S_mono {w : List Nat} {i j : Nat} (h : i ≤ j) : S w i ≤ S w j := by
  induction j with
  | zero => have : i = 0 := by omega
            subst this; exact Nat.le_refl _
  | succ j ih =>
    by_cases q : i = j + 1
    · subst q; exact Nat.le_refl _
    · have := ih (by omega)
      by_cases l : j < w.length
      · rw [S_succ l]; omega
      · have e1 := S_all (w := w) (k := j + 1) (by omega)
        have e2 := S_all (w := w) (k := j) (by omega)
        omega
theorem S_le {w : List Nat} {k : Nat} : S w k ≤ w.sum := by
  have h := S_mono (w := w) (i := k) (j := max k w.length) (by omega)
  have e := S_all (w := w) (k := max k w.length) (by omega)
  omega
/-- the places of the rows below k, with what the steps of the stairs there need -/
def stp (w : List Nat) : Nat → Nat
  | 0 => 0
  | k + 1 => stp w k + (w.getD k 0 + w.getD (k + 1) 0 - 1)
theorem stp_mono {w : List Nat} {i j : Nat} (h : i ≤ j) : stp w i ≤ stp w j := by
  induction j with
  | zero => have : i = 0 := by omega
            subst this; exact Nat.le_refl _
  | succ j ih =>
    by_cases q : i = j + 1
    · subst q; exact Nat.le_refl _
    · have := ih (by omega)
      show _ ≤ stp w j + _
      omega
structure WOK (w : List Nat) : Prop where
  l1 : 1 ≤ w.length
  l2 : w.length ≤ 12
  pos : ∀ x ∈ w, 1 ≤ x
  le : ∀ x ∈ w, x ≤ 8
  sum : w.sum ≤ 40
theorem sum_le {w : List Nat} {M : Nat} (h : ∀ x ∈ w, x ≤ M) : w.sum ≤ w.length * M := by
  induction w with
  | nil => simp
  | cons x w ih =>
    have := ih (fun y hy => h y (List.mem_cons_of_mem _ hy))
    have := h x List.mem_cons_self
    simp only [List.sum_cons, List.length_cons]
    rw [Nat.add_mul]; omega
theorem getD_le {w : List Nat} {M : Nat} (h : ∀ x ∈ w, x ≤ M) (k : Nat) : w.getD k 0 ≤ M := by
  rw [List.getD_eq_getElem?_getD]
  cases e : w[k]? with
  | none => simp
  | some x => exact h x (List.mem_of_getElem? e)
theorem stp_le {w : List Nat} {M : Nat} (h : ∀ x ∈ w, x ≤ M) (k : Nat) : stp w k ≤ k * (2 * M - 1) := by
  induction k with
  | zero => simp [stp]
  | succ k ih =>
    have h1 := getD_le h k
    have h2 := getD_le h (k + 1)
    show stp w k + _ ≤ _
    rw [Nat.add_mul]; omega
theorem WOK.of {w : List Nat} {n M : Nat} (l1 : 1 ≤ w.length) (l2 : w.length ≤ n) (h : ∀ x ∈ w, 1 ≤ x ∧ x ≤ M) (hn : n ≤ 12) (hM : M ≤ 8) (hs : n * M ≤ 36) (ht : (n - 1) * (2 * M - 1) ≤ 55) : WOK w ∧ w.sum ≤ 36 ∧ stp w (w.length - 1) ≤ 55 := by
  have a := sum_le (fun x hx => (h x hx).2)
  have b := Nat.mul_le_mul_right M l2
  have c := stp_le (fun x hx => (h x hx).2) (w.length - 1)
  have d := Nat.mul_le_mul_right (2 * M - 1) (show w.length - 1 ≤ n - 1 by omega)
  exact ⟨⟨l1, by omega, fun x hx => (h x hx).1, fun x hx => Nat.le_trans (h x hx).2 hM, by omega⟩, by omega, by omega⟩
/-- the road leads from a row to the next one -/
def RdIn (w : List Nat) (r : Rd) : Prop := ∃ k, k + 1 < w.length ∧ S w k ≤ r.1 ∧ r.1 < S w (k + 1) ∧ S w (k + 1) ≤ r.2.1 ∧ r.2.1 < S w (k + 2)
/-- the first road comes ahead of the second one, and they do not cross -/
def Ahd (r q : Rd) : Prop := r.1 ≤ q.1 ∧ r.2.1 ≤ q.2.1 ∧ r.1 + r.2.1 < q.1 + q.2.1
structure NOK (w : List Nat) (rs : List Rd) : Prop where
  wok : WOK w
  rd : ∀ r ∈ rs, RdIn w r
  ord : rs.Pairwise Ahd
end MpL

/-! PlLaw: what the laws' own drawing defs answer -/
namespace MpL
open Mp MpP
local macro_rules | `(tactic| walk_at "mp") => `(tactic| try simp -implicitDefEqProofs -dsimp only [List.take_succ_cons, List.take_zero, List.drop_succ_cons, List.drop_zero, Mp.WO_nil, Mp.wn_nx, Mp.wn_rt, Mp.wn_br, Mp.wn_ct, Mp.wn_ex, Mp.wl_nx, Mp.wl_rt, Mp.wl_br, Mp.wl_ct, Mp.wl_ex, Mp.WO_cons, Mp.WO_set, Mp.WO_sets, Mp.WO_app, Mp.WO_put, Mp.WO_exp, Mp.WO_ifs, Mp.WO_ret, Mp.WO_retN, Mp.WO_pas, Mp.WO_brk, Mp.WO_cnt, Mp.WO_wall, Mp.WO_rse, Mp.WO_apop, Mp.W_xat, Mp.W_xis, Mp.W_rvs, Mp.W_xatI, Mp.W_xisI, Mp.W_rvsL, Mp.putG_nil, Mp.putOk_lst, Mp.putOk_dF, Mp.putOk_tup, Mp.fmOk, and_false, false_and, Mp.WO_for, Mp.WO_forF1, Mp.WO_forF2, Mp.WO_forF3, Mp.WO_whl, Mp.W_nm, Mp.W_nma, Mp.W_alj, Mp.WO_ali, Mp.W_aljD, Mp.W_nmaD, Mp.W_cst, Mp.W_bin, Mp.W_neg, Mp.W_nt, Mp.W_bop, Mp.W_evb1, Mp.W_evb, Mp.W_cmp, Mp.W_isn, Mp.W_ife, Mp.W_chn, Mp.W_tupE, Mp.W_lstE, Mp.W_dctE, Mp.W_ix, Mp.W_sl, Mp.W_att, Mp.W_call, Mp.W_slf, Mp.W_meth, Mp.W_mk, Mp.W_blt, Mp.W_isi, Mp.W_bm, Mp.W_rng, Mp.W_zipE, Mp.W_enumE, Mp.W_revE, Mp.W_lc, Mp.W_dc, Mp.W_evs0, Mp.W_evs, Mp.W_evc0, Mp.W_evc, Mp.W_ok, Mp.W_exc, Mp.W_bad, Mp.W_bind, Mp.W_nox, Mp.W_of, Mp.W_need, Mp.W_gS, Mp.W_g_un, Mp.W_g_non, Mp.W_g_bl, Mp.W_g_int, Mp.W_g_str, Mp.W_g_tup, Mp.W_g_lst, Mp.W_g_dct, Mp.W_g_ins, Mp.W_g_scr, List.getElem?_cons_zero, List.getElem?_cons_succ, List.set_cons_zero, List.set_cons_succ, List.cons_append, List.nil_append, List.replicate_succ, List.replicate_zero, Nat.reduceAdd, Nat.reduceSub, Mp.W_opAdd, Mp.W_opSub, Mp.W_opMul, Mp.W_opDiv, Mp.W_opMod, Mp.W_opPow, Mp.W_opCat, Mp.W_opCatT, Mp.W_opRep, List.length_cons, List.length_nil, Mp.W_eqRI, Mp.W_lcF1, Mp.W_lcFc, Mp.cmpD, Mp.truD, Mp.isNon, Mp.W_ixL, Mp.W_ixT, Mp.W_ixS, Mp.W_ix20, Mp.W_ix60, Mp.W_ix61, Mp.W_ix62, Mp.W_ix63, Mp.W_ix64, Mp.W_ix65, Mp.W_ix21, Mp.W_ix30, Mp.W_ix31, Mp.W_ix32, Mp.slD, Mp.toP, Mp.negD, Mp.items, Mp.W_rngD, Mp.zipD, Mp.enumD, Mp.revD, Mp.W_lenL, Mp.W_lenT, Mp.W_lenC, Mp.W_intI, Mp.W_listL, Mp.W_listT, Mp.W_tupL, Mp.W_tupT, Mp.W_min2, Mp.W_max2, Mp.W_absI, Mp.W_sortL, Mp.bmD, Mp.rcv, Mp.setTg, Mp.setAll, Mp.locD_nil, Mp.muAt_nil, Mp.W_muApp, Mp.W_muDct, Mp.W_att_cons, Mp.WO_setFc, Mp.fputF, Mp.fputV, ↓reduceIte, Nat.reduceEqDiff, Mp.W_isi_non_int, Mp.W_isi_non_bool, Mp.W_isi_non_str, Mp.W_isi_non_list, Mp.W_isi_non_tuple, Mp.W_isi_bl_int, Mp.W_isi_bl_bool, Mp.W_isi_bl_str, Mp.W_isi_bl_list, Mp.W_isi_bl_tuple, Mp.W_isi_int_int, Mp.W_isi_int_bool, Mp.W_isi_int_str, Mp.W_isi_int_list, Mp.W_isi_int_tuple, Mp.W_isi_str_int, Mp.W_isi_str_bool, Mp.W_isi_str_str, Mp.W_isi_str_list, Mp.W_isi_str_tuple, Mp.W_isi_tup_int, Mp.W_isi_tup_bool, Mp.W_isi_tup_str, Mp.W_isi_tup_list, Mp.W_isi_tup_tuple, Mp.W_isi_lst_int, Mp.W_isi_lst_bool, Mp.W_isi_lst_str, Mp.W_isi_lst_list, Mp.W_isi_lst_tuple, Mp.W_isi_ins_int, Mp.W_isi_ins_bool, Mp.W_isi_ins_str, Mp.W_isi_ins_list, Mp.W_isi_ins_tuple, Mp.isCls_ins, Mp.ite_bl, Mp.ite_bf, Mp.ite_pp, List.length_map, decide_eq_true_eq, beq_iff_eq, beq_eq_false_iff_ne, decide_eq_false_iff_not, Option.some.injEq, Mp.D.lst.injEq, exists_eq_left', exists_eq_left, Bool.not_eq_true', Bool.not_eq_false', beq_self_eq_true, Bool.not_true, Bool.not_false, reduceCtorEq, false_implies, not_true_eq_false, not_false_eq_true, implies_true, true_and, and_true, true_implies, forall_const, if_true, if_false])
local macro_rules | `(tactic| walk_at "br") => `(tactic| (repeat' (first | apply And.intro | intro _)) <;> (first | omega | exact Mp.inB_nat (by omega) (by omega) | skip))
theorem cell_ok (ns : List Int) (k : Nat) : ∃ c : Int, run F__law_cell [.scr ns, .int k] = .ok (.int c) := by
  suffices h : ∃ d, run F__law_cell [.scr ns, .int k] = .ok d ∧ ∃ c : Int, d = .int c by
    obtain ⟨_, h, c, rfl⟩ := h
    exact ⟨c, h⟩
  unfold F__law_cell
  refine Rn (by rfl) ?_
  walk_at "mp"
  exact ⟨fun h => ⟨inB_nat (by omega) h, _, rfl⟩, fun _ => ⟨_, rfl⟩⟩
theorem mulOk_l {i j : Int} (h1 : -18446744073709551616 < i) (h2 : i < 18446744073709551616) : mulOk i j = true := by simp [mulOk, h1, h2]
theorem mulOk_r {i j : Int} (h1 : -18446744073709551616 < j) (h2 : j < 18446744073709551616) : mulOk i j = true := by simp [mulOk, h1, h2]
theorem draws_ok (c : Int) (m : Nat) (hm : m ≤ 1000) : ∃ ds : List Int, run F__law_draws [.int c, .int m] = .ok (.lst (ds.map .int)) ∧ ds.length = m ∧ ∀ d ∈ ds, 0 ≤ d ∧ d < 2147483648 := by
  suffices h : ∃ d, run F__law_draws [.int c, .int m] = .ok d ∧ ∃ ds : List Int, d = .lst (ds.map .int) ∧ ds.length = m ∧ ∀ d ∈ ds, 0 ≤ d ∧ d < 2147483648 by
    obtain ⟨_, h, c, rfl, q⟩ := h
    exact ⟨c, h, q⟩
  unfold F__law_draws
  refine Rn (by rfl) ?_
  refine WO_split 3 (fun e => ∃ r : Int, 0 ≤ r ∧ e = [.int c, .int m, .int r, .lst [], .un, .un]) ?_ ?_
  · walk_at "mp"
    have : (10 : Int) ^ (18 : Int).toNat = 1000000000000000000 := by decide
    rw [this]
    exact ⟨by decide, fun h => ⟨c, by omega, rfl⟩, fun h => ⟨0, by omega, rfl⟩⟩
  rintro _ ⟨r, hr, rfl⟩
  walk_at "mp"
  refine ⟨by omega, WO_forRng (fun k e => ∃ (r : Int) (ds : List Int) (x y : D), 0 ≤ r ∧ ds.length = k ∧ (∀ d ∈ ds, 0 ≤ d ∧ d < 2147483648) ∧ e = [.int c, .int m, .int r, .lst (ds.map .int), x, y]) ⟨r, [], _, _, hr, rfl, by simp, rfl⟩ ?_ ?_⟩
  · rintro k hk _ ⟨r, ds, x, y, hr, hl, hd, rfl⟩
    unfold F__law_draws_b1
    walk_at "mp"
    have one : ∀ v : Int, 0 ≤ v → v < 2147483648 → ∀ d ∈ ds ++ [v], 0 ≤ d ∧ d < 2147483648 := by
      intro v h1 h2 d h
      rcases List.mem_append.mp h with h | h
      · exact hd d h
      · simp at h; subst h; exact ⟨h1, h2⟩
    refine ⟨fun h => ⟨by decide, lim_app (by omega), by decide, r / 1000, ds ++ [r % 1000], _, _, by omega, by simp [hl], one _ (by omega) (by omega), by rw [map_app1]⟩,
      fun h => ⟨mulOk_l (by omega) (by omega), by decide, mulOk_l (by omega) (by omega), by decide, mulOk_l (by omega) (by omega), mulOk_l (by omega) (by omega), by decide, by decide, lim_app (by omega), by decide, r / 1000, ds ++ [_], _, _, by omega, by simp [hl], ?_, by rw [map_app1]⟩⟩
    exact one _ (by omega) (by omega)
  · rintro _ ⟨r, ds, x, y, hr, hl, hd, rfl⟩
    walk_at "mp"
    exact ⟨ds, rfl, by omega, hd⟩

theorem W_lcRng {f : D → R (Option D)} {a b : Int} {q : Nat → Int → Prop} {Q : List D → Prop} {E : D → Prop}
    (hf : ∀ k : Nat, a + k < b → W (f (.int (a + k))) (fun o => ∃ y : Int, o = some (.int y) ∧ q k y) (fun _ => False))
    (h : ∀ ys : List Int, ys.length = (b - a).toNat → (∀ (k : Nat) (y : Int), ys[k]? = some y → q k y) → Q (ys.map .int)) : W (lcGo f (rngL a b)) Q E := by
  rw [rngL_map]
  refine W_lcGoR (h := D.int) (q := q) ?_ ?_
  · intro k hk
    rw [List.mem_range] at hk
    exact hf k (by omega)
  · intro ys hl hq
    rw [List.length_range] at hl
    refine h ys hl fun k y e => ?_
    have hk : k < ys.length := by
      rcases Nat.lt_or_ge k ys.length with q | q
      · exact q
      · rw [List.getElem?_eq_none q] at e; cases e
    exact hq k k y (by rw [List.getElem?_range (by omega)]) e
theorem ints_nat {ys : List Int} {M : Nat} (h : ∀ (k : Nat) (y : Int), ys[k]? = some y → 1 ≤ y ∧ y ≤ M) : ∃ w : List Nat, ys.map D.int = w.map dN ∧ w.length = ys.length ∧ ∀ x ∈ w, 1 ≤ x ∧ x ≤ M := by
  have h' : ∀ y ∈ ys, 1 ≤ y ∧ y ≤ M := fun y hy => by
    obtain ⟨k, hk⟩ := List.mem_iff_getElem?.mp hy
    exact h k y hk
  refine ⟨ys.map Int.toNat, ?_, by simp, ?_⟩
  · rw [List.map_map]
    refine List.map_congr_left fun y hy => ?_
    have := h' y hy
    show D.int y = .int (y.toNat : Int)
    rw [Int.toNat_of_nonneg (by omega)]
  · intro x hx
    obtain ⟨y, hy, rfl⟩ := List.mem_map.mp hx
    have := h' y hy
    omega
def WOut (d : D) : Prop := ∃ w : List Nat, d = .lst (w.map dN) ∧ WOK w ∧ w.sum ≤ 36 ∧ stp w (w.length - 1) ≤ 55
theorem wout {ys : List Int} {n m M : Nat} (hl : ys.length = m) (h1 : 1 ≤ m) (h2 : m ≤ n) (hn : n ≤ 12) (hM : M ≤ 8) (hs : n * M ≤ 36) (ht : (n - 1) * (2 * M - 1) ≤ 55) (h : ∀ (k : Nat) (y : Int), ys[k]? = some y → 1 ≤ y ∧ y ≤ M) : (ys.map D.int).length ≤ LIM ∧ WOut (.lst (ys.map .int)) := by
  obtain ⟨w, e, l, hw⟩ := ints_nat h
  refine ⟨by simp [LIM]; omega, w, by rw [e], WOK.of (n := n) (M := M) (by omega) (by omega) hw hn hM hs ht⟩
theorem widths_ok (ds : List Int) (small : Bool) (hl : 14 ≤ ds.length) : ∃ w : List Nat, run F__law_widths [.lst (ds.map .int), .bl small] = .ok (.lst (w.map dN)) ∧ WOK w ∧ w.sum ≤ 36 ∧ stp w (w.length - 1) ≤ 55 := by
  suffices h : ∃ d, run F__law_widths [.lst (ds.map .int), .bl small] = .ok d ∧ WOut d by
    obtain ⟨_, h, w, rfl, q⟩ := h
    exact ⟨w, h, q⟩
  unfold F__law_widths
  refine Rn (by rfl) ?_
  walk_at "mp"
  refine ⟨inB_nat (by omega) (by omega), by decide, inB_nat (by omega) (by omega), fun _ => ⟨by decide, by decide, by omega, ?_⟩, fun _ => ⟨fun _ => ⟨by decide, by omega, ?_⟩, fun _ => ⟨fun _ => ⟨by decide, by omega, ?_⟩, fun _ => ⟨fun _ => ?_, fun _ => ⟨by decide, by omega, ?_⟩⟩⟩⟩⟩
  · refine W_lcRng (q := fun _ y => 1 ≤ y ∧ y ≤ (3 : Nat)) ?_ fun ys hl hq => wout (n := 4) (M := 3) hl (by omega) (by omega) (by decide) (by decide) (by decide) (by decide) hq
    intro k hk
    unfold F__law_widths_e1
    walk_at "mp"
    exact ⟨inB_nat (by omega) (by omega), by decide, by decide, _, rfl, by omega⟩
  · refine W_lcRng (q := fun _ y => 1 ≤ y ∧ y ≤ (3 : Nat)) ?_ fun ys hl hq => wout (n := 12) (M := 3) hl (by omega) (by omega) (by decide) (by decide) (by decide) (by decide) hq
    intro k hk
    unfold F__law_widths_e2
    walk_at "mp"
    exact ⟨inB_nat (by omega) (by omega), by decide, by decide, _, rfl, by omega⟩
  · refine W_lcRng (q := fun _ y => 1 ≤ y ∧ y ≤ (8 : Nat)) ?_ fun ys hl hq => wout (n := 4) (M := 8) hl (by omega) (by omega) (by decide) (by decide) (by decide) (by decide) hq
    intro k hk
    unfold F__law_widths_e3
    walk_at "mp"
    exact ⟨inB_nat (by omega) (by omega), by decide, _, rfl, by omega⟩
  · refine ⟨by decide, ?_⟩
    have e : getA [(1 : Int), 5, 6, 7, 8] (getA ds 0 % 5) = 1 ∨ getA [(1 : Int), 5, 6, 7, 8] (getA ds 0 % 5) = 5 ∨ getA [(1 : Int), 5, 6, 7, 8] (getA ds 0 % 5) = 6 ∨ getA [(1 : Int), 5, 6, 7, 8] (getA ds 0 % 5) = 7 ∨ getA [(1 : Int), 5, 6, 7, 8] (getA ds 0 % 5) = 8 := by
      have h : getA ds 0 % 5 = 0 ∨ getA ds 0 % 5 = 1 ∨ getA ds 0 % 5 = 2 ∨ getA ds 0 % 5 = 3 ∨ getA ds 0 % 5 = 4 := by omega
      rcases h with h | h | h | h | h <;> rw [h] <;> decide
    rw [show [D.int 1, D.int 5, D.int 6, D.int 7, D.int 8] = [(1 : Int), 5, 6, 7, 8].map D.int from rfl]
    generalize hg : getA [(1 : Int), 5, 6, 7, 8] (getA ds 0 % 5) = g at e
    walk_at "mp"
    rw [hg]
    refine ⟨inB_nat (by omega) (by simp; omega), by omega, ?_⟩
    refine W_lcRng (q := fun _ y => 1 ≤ y ∧ y ≤ (4 : Nat)) ?_ fun ys hl hq => wout (n := 8) (M := 4) hl (by omega) (by omega) (by decide) (by decide) (by decide) (by decide) hq
    intro k hk
    unfold F__law_widths_e4
    walk_at "mp"
    exact ⟨inB_nat (by omega) (by omega), by decide, _, rfl, by omega⟩
  · refine W_lcRng (q := fun _ y => 1 ≤ y ∧ y ≤ (4 : Nat)) ?_ fun ys hl hq => wout (n := 5) (M := 4) hl (by omega) (by omega) (by decide) (by decide) (by decide) (by decide) hq
    intro k hk
    unfold F__law_widths_e5
    walk_at "mp"
    exact ⟨inB_nat (by omega) (by omega), by decide, by decide, _, rfl, by omega⟩
theorem price_ok (i j : Int) (h : -1000000 ≤ j ∧ j ≤ 1000000) : ∃ p : Int, run F__law_price [.int i, .int j] = .ok (.int p) := by
  suffices h : ∃ d, run F__law_price [.int i, .int j] = .ok d ∧ ∃ c : Int, d = .int c by
    obtain ⟨_, h, c, rfl⟩ := h
    exact ⟨c, h⟩
  unfold F__law_price
  refine Rn (by rfl) ?_
  walk_at "mp"
  exact ⟨fun _ => ⟨_, rfl⟩, fun _ => ⟨fun _ => ⟨by decide, _, rfl⟩, fun _ => ⟨fun _ => ⟨by decide, _, rfl⟩, fun _ => ⟨fun _ => ⟨_, rfl⟩, fun _ => ⟨by decide, mulOk_l (by omega) (by omega), _, rfl⟩⟩⟩⟩⟩
theorem roads_ok (w : List Nat) (ds : List Int) (hw : WOK w) (hs : stp w (w.length - 1) + 15 ≤ ds.length) (hd : ∀ d ∈ ds, 0 ≤ d ∧ d < 2147483648) : ∃ rs : List Rd, run F__law_roads [.lst (w.map dN), .lst (ds.map .int)] = .ok (.lst (rs.map dR)) ∧ NOK w rs ∧ rs.length ≤ stp w (w.length - 1) := by
  suffices h : ∃ d, run F__law_roads [.lst (w.map dN), .lst (ds.map .int)] = .ok d ∧ ∃ rs : List Rd, d = .lst (rs.map dR) ∧ NOK w rs ∧ rs.length ≤ stp w (w.length - 1) by
    obtain ⟨_, h, c, rfl, q⟩ := h
    exact ⟨c, h, q⟩
  unfold F__law_roads
  refine Rn (by rfl) ?_
  walk_at "mp"
  have hlen : 1 ≤ w.length := hw.l1
  have hl2 : w.length ≤ 12 := hw.l2
  refine ⟨inB_nat (by omega) (by omega), by decide, by omega, ?_⟩
  generalize getA ds 14 % 10 = mode
  have tb : stp w (w.length - 1) ≤ 165 := by
    have := stp_le (M := 8) hw.le (w.length - 1)
    omega
  refine WO_forRng (fun k e => ∃ (rs : List Rd) (x1 x2 x3 x4 x5 : D), (∀ r ∈ rs, RdIn w r) ∧ rs.Pairwise Ahd ∧ (∀ r ∈ rs, r.1 < S w k ∧ r.2.1 < S w (k + 1)) ∧ rs.length ≤ stp w k ∧
    e = [.lst (w.map dN), .lst (ds.map .int), .int mode, .lst (rs.map dR), .int (S w k : Nat), .int ((15 + stp w k : Nat) : Int), x1, x2, x3, x4, x5])
    ⟨[], _, _, _, _, _, by simp, List.Pairwise.nil, by simp, by simp, rfl⟩ ?_ ?_
  · rintro k hk _ ⟨rs, x1, x2, x3, x4, x5, h1, h2, h3, h4, rfl⟩
    have hk1 : k + 1 < w.length := by omega
    have hk0 : k < w.length := by omega
    have e1 : getA w (0 + (k : Int)) = w[k] := getA_nat k (by omega) hk0
    have e2 : getA w (0 + (k : Int) + 1) = w[k + 1] := getA_nat (k + 1) (by omega) hk1
    have p0 : 1 ≤ w[k] := hw.pos _ (List.getElem_mem hk0)
    have p1 : 1 ≤ w[k + 1] := hw.pos _ (List.getElem_mem hk1)
    have q0 : w[k] ≤ 8 := hw.le _ (List.getElem_mem hk0)
    have q1 : w[k + 1] ≤ 8 := hw.le _ (List.getElem_mem hk1)
    have s1 := S_succ hk0
    have s2 : S w (k + 2) = S w (k + 1) + w[k + 1] := S_succ hk1
    have t1 : stp w (k + 1) = stp w k + (w[k] + w[k + 1] - 1) := by
      show stp w k + _ = _
      rw [List.getD_eq_getElem?_getD, List.getElem?_eq_getElem hk0, List.getD_eq_getElem?_getD, List.getElem?_eq_getElem hk1]; rfl
    have t2 : stp w (k + 1) ≤ stp w (w.length - 1) := stp_mono (by omega)
    unfold F__law_roads_b2
    walk_at "mp"
    rw [e1, e2]
    refine ⟨inB_nat (by omega) (by omega), inB_nat (by omega) (by omega), inB_nat (by omega) (by omega), by omega, ?_⟩
    refine WO_forRng (fun j e => ∃ (a b : Nat) (rs : List Rd) (x : D), a + b = j ∧ a < w[k] ∧ (b < w[k + 1] ∨ (a + 1 = w[k] ∧ b = w[k + 1])) ∧ (∀ r ∈ rs, RdIn w r) ∧ rs.Pairwise Ahd ∧
      (∀ r ∈ rs, r.1 ≤ S w k + a ∧ r.2.1 ≤ S w (k + 1) + b ∧ r.1 + r.2.1 < S w k + a + (S w (k + 1) + b) ∧ r.1 < S w (k + 1) ∧ r.2.1 < S w (k + 2)) ∧ rs.length ≤ stp w k + j ∧
      e = [.lst (w.map dN), .lst (ds.map .int), .int mode, .lst (rs.map dR), .int (S w k : Nat), .int ((15 + stp w k + j : Nat) : Int), .int (k : Int), .int (a : Int), .int (b : Int), .int (S w (k + 1) : Nat), x])
      ⟨0, 0, rs, x5, rfl, by omega, by omega, h1, h2, fun r hr => by have := h3 r hr; omega, by omega, by
        simp only [s1]
        simp⟩ ?_ ?_
    · rintro j hj _ ⟨a, b, rs, x, hab, ha, hb, h1, h2, h3, h4, rfl⟩
      have hb' : b < w[k + 1] := by omega
      unfold F__law_roads_b1
      refine WO_split 1 (fun e => ∃ rs : List Rd, (∀ r ∈ rs, RdIn w r) ∧ rs.Pairwise Ahd ∧
        (∀ r ∈ rs, r.1 ≤ S w k + a ∧ r.2.1 ≤ S w (k + 1) + b ∧ r.1 < S w (k + 1) ∧ r.2.1 < S w (k + 2)) ∧ rs.length ≤ stp w k + (j + 1) ∧
        e = [.lst (w.map dN), .lst (ds.map .int), .int mode, .lst (rs.map dR), .int (S w k : Nat), .int ((15 + stp w k + j : Nat) : Int), .int (k : Int), .int (a : Int), .int (b : Int), .int (S w (k + 1) : Nat), .int (0 + j)]) ?_ ?_
      · have hat : (15 + stp w k + j) < ds.length := by omega
        have eat : getA ds ((15 + stp w k + j : Nat) : Int) = ds[15 + stp w k + j] := getA_nat _ rfl hat
        have hdv := hd _ (List.getElem_mem hat)
        obtain ⟨p, hp⟩ := price_ok mode (getA ds ((15 + stp w k + j : Nat) : Int) / 20 % 50) (by omega)
        walk_at "mp"
        refine ⟨inB_nat (by omega) (by omega), by decide, fun _ => ⟨inB_nat (by omega) (by omega), by decide, by decide, W.by hp ?_⟩, fun _ => ⟨rs, h1, h2, fun r hr => by have := h3 r hr; omega, by omega, rfl⟩⟩
        walk_at "mp"
        refine ⟨by simp only [LIM]; omega, rs ++ [(S w k + a, S w (k + 1) + b, p)], ?_, ?_, ?_, by simp; omega, ?_⟩
        · intro r hr
          rcases List.mem_append.mp hr with hr | hr
          · exact h1 r hr
          · simp at hr; subst hr
            refine ⟨k, hk1, ?_, ?_, ?_, ?_⟩ <;> dsimp only <;> omega
        · rw [List.pairwise_append]
          refine ⟨h2, List.pairwise_singleton _ _, ?_⟩
          intro r hr q hq
          simp at hq; subst hq
          have := h3 r hr
          refine ⟨?_, ?_, ?_⟩ <;> dsimp only <;> omega
        · intro r hr
          rcases List.mem_append.mp hr with hr | hr
          · have := h3 r hr; omega
          · simp at hr; subst hr
            simp only; omega
        · rw [← map_app1]
          rfl
      · rintro _ ⟨rs, h1, h2, h3, h4, rfl⟩
        have e1' : getA w (k : Int) = w[k] := getA_nat k rfl hk0
        have e2' : getA w ((k : Int) + 1) = w[k + 1] := getA_nat (k + 1) (by omega) hk1
        have hat : (15 + stp w k + j) < ds.length := by omega
        have hA : a + 1 < w[k] → _ := fun (q : a + 1 < w[k]) => (⟨a + 1, b, rs, .int (0 + j), by omega, by omega, by omega, h1, h2, fun r hr => by have := h3 r hr; omega, h4, rfl⟩ : ∃ (a b : Nat) (rs : List Rd) (x : D), a + b = j + 1 ∧ a < w[k] ∧ (b < w[k + 1] ∨ (a + 1 = w[k] ∧ b = w[k + 1])) ∧ (∀ r ∈ rs, RdIn w r) ∧ rs.Pairwise Ahd ∧
          (∀ r ∈ rs, r.1 ≤ S w k + a ∧ r.2.1 ≤ S w (k + 1) + b ∧ r.1 + r.2.1 < S w k + a + (S w (k + 1) + b) ∧ r.1 < S w (k + 1) ∧ r.2.1 < S w (k + 2)) ∧ rs.length ≤ stp w k + (j + 1) ∧ _ = [.lst (w.map dN), .lst (ds.map .int), .int mode, .lst (rs.map dR), .int (S w k : Nat), .int ((15 + stp w k + (j + 1) : Nat) : Int), .int (k : Int), .int (a : Int), .int (b : Int), .int (S w (k + 1) : Nat), x])
        have hB : ¬ (a + 1 < w[k] ∧ b + 1 = w[k + 1]) → _ := fun (q : ¬ (a + 1 < w[k] ∧ b + 1 = w[k + 1])) => (⟨a, b + 1, rs, .int (0 + j), by omega, by omega, by omega, h1, h2, fun r hr => by have := h3 r hr; omega, h4, rfl⟩ : ∃ (a b : Nat) (rs : List Rd) (x : D), a + b = j + 1 ∧ a < w[k] ∧ (b < w[k + 1] ∨ (a + 1 = w[k] ∧ b = w[k + 1])) ∧ (∀ r ∈ rs, RdIn w r) ∧ rs.Pairwise Ahd ∧
          (∀ r ∈ rs, r.1 ≤ S w k + a ∧ r.2.1 ≤ S w (k + 1) + b ∧ r.1 + r.2.1 < S w k + a + (S w (k + 1) + b) ∧ r.1 < S w (k + 1) ∧ r.2.1 < S w (k + 2)) ∧ rs.length ≤ stp w k + (j + 1) ∧ _ = [.lst (w.map dN), .lst (ds.map .int), .int mode, .lst (rs.map dR), .int (S w k : Nat), .int ((15 + stp w k + (j + 1) : Nat) : Int), .int (k : Int), .int (a : Int), .int (b : Int), .int (S w (k + 1) : Nat), x])
        walk_at "mp"
        rw [e1', e2']
        exact ⟨inB_nat (by omega) (by omega), fun ha1 => ⟨inB_nat (by omega) (by omega), by decide, by decide, fun _ => ⟨inB_nat (by omega) (by omega), fun q => hA (by omega), fun q => hB (by omega)⟩, fun q => ⟨fun _ => hA (by omega), fun z => (q z).elim⟩⟩, fun ha1 => ⟨fun z => (ha1 z).elim, fun _ => hB (by omega)⟩⟩
    · rintro _ ⟨a, b, rs, x, hab, ha, hb, h1, h2, h3, h4, rfl⟩
      walk_at "mp"
      have ej : 15 + stp w k + ((w[k] : Int) + w[k + 1] - 1 - 0).toNat = 15 + stp w (k + 1) := by omega
      rw [ej]
      exact ⟨rs, _, _, _, _, _, h1, h2, fun r hr => (h3 r hr).2.2.2, by omega, rfl⟩
  · rintro _ ⟨rs, x1, x2, x3, x4, x5, h1, h2, h3, h4, rfl⟩
    walk_at "mp"
    have e : ((w.length : Int) - 1 - 0).toNat = w.length - 1 := by omega
    rw [e] at h4
    exact ⟨rs, rfl, ⟨hw, h1, h2⟩, h4⟩
end MpL

/-! PlNet1: starts_of, rows_of, check_roads -/
namespace MpL
open Mp MpP
local macro_rules | `(tactic| walk_at "mp") => `(tactic| try simp -implicitDefEqProofs -dsimp only [List.take_succ_cons, List.take_zero, List.drop_succ_cons, List.drop_zero, Mp.WO_nil, Mp.wn_nx, Mp.wn_rt, Mp.wn_br, Mp.wn_ct, Mp.wn_ex, Mp.wl_nx, Mp.wl_rt, Mp.wl_br, Mp.wl_ct, Mp.wl_ex, Mp.WO_cons, Mp.WO_set, Mp.WO_sets, Mp.WO_app, Mp.WO_put, Mp.WO_exp, Mp.WO_ifs, Mp.WO_ret, Mp.WO_retN, Mp.WO_pas, Mp.WO_brk, Mp.WO_cnt, Mp.WO_wall, Mp.WO_rse, Mp.WO_apop, Mp.W_xat, Mp.W_xis, Mp.W_rvs, Mp.W_xatI, Mp.W_xisI, Mp.W_rvsL, Mp.putG_nil, Mp.putOk_lst, Mp.putOk_dF, Mp.putOk_tup, Mp.fmOk, and_false, false_and, Mp.WO_for, Mp.WO_forF1, Mp.WO_forF2, Mp.WO_forF3, Mp.WO_whl, Mp.W_nm, Mp.W_nma, Mp.W_alj, Mp.WO_ali, Mp.W_aljD, Mp.W_nmaD, Mp.W_cst, Mp.W_bin, Mp.W_neg, Mp.W_nt, Mp.W_bop, Mp.W_evb1, Mp.W_evb, Mp.W_cmp, Mp.W_isn, Mp.W_ife, Mp.W_chn, Mp.W_tupE, Mp.W_lstE, Mp.W_dctE, Mp.W_ix, Mp.W_sl, Mp.W_att, Mp.W_call, Mp.W_slf, Mp.W_meth, Mp.W_mk, Mp.W_blt, Mp.W_isi, Mp.W_bm, Mp.W_rng, Mp.W_zipE, Mp.W_enumE, Mp.W_revE, Mp.W_lc, Mp.W_dc, Mp.W_evs0, Mp.W_evs, Mp.W_evc0, Mp.W_evc, Mp.W_ok, Mp.W_exc, Mp.W_bad, Mp.W_bind, Mp.W_nox, Mp.W_of, Mp.W_need, Mp.W_gS, Mp.W_g_un, Mp.W_g_non, Mp.W_g_bl, Mp.W_g_int, Mp.W_g_str, Mp.W_g_tup, Mp.W_g_lst, Mp.W_g_dct, Mp.W_g_ins, Mp.W_g_scr, List.getElem?_cons_zero, List.getElem?_cons_succ, List.set_cons_zero, List.set_cons_succ, List.cons_append, List.nil_append, List.replicate_succ, List.replicate_zero, Nat.reduceAdd, Nat.reduceSub, Mp.W_opAdd, Mp.W_opSub, Mp.W_opMul, Mp.W_opDiv, Mp.W_opMod, Mp.W_opPow, Mp.W_opCat, Mp.W_opCatT, Mp.W_opRep, List.length_cons, List.length_nil, Mp.W_eqRI, Mp.W_lcF1, Mp.W_lcFc, Mp.cmpD, Mp.truD, Mp.isNon, Mp.W_ixL, Mp.W_ixT, Mp.W_ixS, Mp.W_ix20, Mp.W_ix60, Mp.W_ix61, Mp.W_ix62, Mp.W_ix63, Mp.W_ix64, Mp.W_ix65, Mp.W_ix21, Mp.W_ix30, Mp.W_ix31, Mp.W_ix32, Mp.slD, Mp.toP, Mp.negD, Mp.items, Mp.W_rngD, Mp.zipD, Mp.enumD, Mp.revD, Mp.W_lenL, Mp.W_lenT, Mp.W_lenC, Mp.W_intI, Mp.W_listL, Mp.W_listT, Mp.W_tupL, Mp.W_tupT, Mp.W_min2, Mp.W_max2, Mp.W_absI, Mp.W_sortL, Mp.bmD, Mp.rcv, Mp.setTg, Mp.setAll, Mp.locD_nil, Mp.muAt_nil, Mp.W_muApp, Mp.W_muDct, Mp.W_att_cons, Mp.WO_setFc, Mp.fputF, Mp.fputV, ↓reduceIte, Nat.reduceEqDiff, Mp.W_isi_non_int, Mp.W_isi_non_bool, Mp.W_isi_non_str, Mp.W_isi_non_list, Mp.W_isi_non_tuple, Mp.W_isi_bl_int, Mp.W_isi_bl_bool, Mp.W_isi_bl_str, Mp.W_isi_bl_list, Mp.W_isi_bl_tuple, Mp.W_isi_int_int, Mp.W_isi_int_bool, Mp.W_isi_int_str, Mp.W_isi_int_list, Mp.W_isi_int_tuple, Mp.W_isi_str_int, Mp.W_isi_str_bool, Mp.W_isi_str_str, Mp.W_isi_str_list, Mp.W_isi_str_tuple, Mp.W_isi_tup_int, Mp.W_isi_tup_bool, Mp.W_isi_tup_str, Mp.W_isi_tup_list, Mp.W_isi_tup_tuple, Mp.W_isi_lst_int, Mp.W_isi_lst_bool, Mp.W_isi_lst_str, Mp.W_isi_lst_list, Mp.W_isi_lst_tuple, Mp.W_isi_ins_int, Mp.W_isi_ins_bool, Mp.W_isi_ins_str, Mp.W_isi_ins_list, Mp.W_isi_ins_tuple, Mp.isCls_ins, Mp.ite_bl, Mp.ite_bf, Mp.ite_pp, List.length_map, decide_eq_true_eq, beq_iff_eq, beq_eq_false_iff_ne, decide_eq_false_iff_not, Option.some.injEq, Mp.D.lst.injEq, exists_eq_left', exists_eq_left, Bool.not_eq_true', Bool.not_eq_false', beq_self_eq_true, Bool.not_true, Bool.not_false, reduceCtorEq, false_implies, not_true_eq_false, not_false_eq_true, implies_true, true_and, and_true, true_implies, forall_const, if_true, if_false])
local macro_rules | `(tactic| walk_at "br") => `(tactic| (repeat' (first | apply And.intro | intro _)) <;> (first | omega | exact Mp.inB_nat (by omega) (by omega) | skip))
def starts (w : List Nat) : List Nat := (List.range (w.length + 1)).map (S w)
theorem starts_len {w : List Nat} : (starts w).length = w.length + 1 := by simp [starts]
theorem starts_at {w : List Nat} {k : Nat} (h : k < (starts w).length) : (starts w)[k] = S w k := by simp [starts]
def rowOf : List Nat → Nat → Nat
  | [], _ => 0
  | x :: w, p => if p < x then 0 else rowOf w (p - x) + 1
theorem S_cons {x : Nat} {w : List Nat} {k : Nat} : S (x :: w) (k + 1) = x + S w k := by simp [S]
theorem rowOf_eq : ∀ {w : List Nat} {k p : Nat}, k < w.length → S w k ≤ p → p < S w (k + 1) → rowOf w p = k
  | [], k, p, h, _, _ => by simp at h
  | x :: w, 0, p, h, h1, h2 => by
    rw [S_cons] at h2
    simp only [S, List.take_zero, List.sum_nil] at h2
    unfold rowOf
    rw [if_pos (by omega)]
  | x :: w, k + 1, p, h, h1, h2 => by
    rw [S_cons] at h1 h2
    unfold rowOf
    have := rowOf_eq (w := w) (k := k) (p := p - x) (by simpa using h) (by omega) (by omega)
    rw [if_neg (by omega), this]
theorem rowOf_spec : ∀ {w : List Nat} {p : Nat}, p < w.sum → rowOf w p < w.length ∧ S w (rowOf w p) ≤ p ∧ p < S w (rowOf w p + 1)
  | [], p, h => by simp at h
  | x :: w, p, h => by
    unfold rowOf
    by_cases q : p < x
    · rw [if_pos q]
      refine ⟨by simp, by simp [S], ?_⟩
      rw [S_cons]; omega
    · rw [if_neg q]
      rw [List.sum_cons] at h
      obtain ⟨h1, h2, h3⟩ := rowOf_spec (w := w) (p := p - x) (by omega)
      refine ⟨by simpa using h1, ?_, ?_⟩
      · rw [S_cons]; omega
      · rw [S_cons]; omega
theorem rowOf_mono {w : List Nat} {p q : Nat} (h : p ≤ q) (hq : q < w.sum) : rowOf w p ≤ rowOf w q := by
  obtain ⟨a1, a2, a3⟩ := rowOf_spec (w := w) (p := p) (by omega)
  obtain ⟨b1, b2, b3⟩ := rowOf_spec hq
  rcases Nat.lt_or_ge (rowOf w q) (rowOf w p) with c | c
  · have := S_mono (w := w) (i := rowOf w q + 1) (j := rowOf w p) c
    omega
  · exact c
def rows (w : List Nat) : List Nat := (List.range w.sum).map (rowOf w)
theorem rows_len {w : List Nat} : (rows w).length = w.sum := by simp [rows]
theorem rows_at {w : List Nat} {p : Nat} (h : p < (rows w).length) : (rows w)[p] = rowOf w p := by simp [rows]
theorem S_lt {w : List Nat} (hp : ∀ x ∈ w, 1 ≤ x) {i j : Nat} (h : i < j) (hj : j ≤ w.length) : S w i < S w j := by
  have h1 := S_succ (w := w) (k := i) (by omega)
  have h2 := hp _ (List.getElem_mem (show i < w.length by omega))
  have h3 := S_mono (w := w) (i := i + 1) (j := j) h
  omega
/-- a list or a tuple -/
def sq (t : Bool) (xs : List D) : D := if t then .tup xs else .lst xs
theorem W_items {t : Bool} {xs : List D} {Q : List D → Prop} {E : D → Prop} : W (items (sq t xs)) Q E = Q xs := by cases t <;> rfl
theorem getE_sq {t : Bool} {xs env : List D} {Q : D → Prop} {E : D → Prop} : W (getE (sq t xs :: env) 0) Q E = Q (sq t xs) := by cases t <;> rfl

theorem starts_ok (w : List Nat) (t : Bool) (hl : w.length ≤ 1000) : run F_starts_of [sq t (w.map dN)] = .ok (.tup ((starts w).map dN)) := by
  unfold F_starts_of
  refine RnE (by rfl) ?_
  suffices h : WO (execs [S.for_ [2] (E.nm 0) F_starts_of_b1, S.ret (E.blt Blt.tuple [E.nm 1])] (fun _ => .bad) [sq t (w.map dN), .lst [dN 0], .un]) ⟨fun _ => D.tup ((starts w).map dN) = .non, fun d => D.tup ((starts w).map dN) = d, fun _ => False, fun _ => False, fun _ => False⟩ by
    exact h
  rw [WO_cons, WO_for, W_nm, getE_sq, W_items]
  refine WO_forMap (fun k e => ∃ x : D, e = [sq t (w.map dN), .lst (((List.range (k + 1)).map (S w)).map dN), x]) ⟨.un, rfl⟩ ?_ ?_
  · rintro k hk _ ⟨x, rfl⟩
    unfold F_starts_of_b1
    walk_at "mp"
    have e : getA (List.map (S w) (List.range (k + 1))) (-1) = S w k := by
      rw [getA_last (by simp)]; simp
    rw [e]
    refine ⟨⟨by simp; omega, by simp; omega⟩, lim_app (by simp; omega), dN w[k], ?_⟩
    rw [List.range_succ (n := k + 1), List.map_append, List.map_append, List.map_singleton, List.map_singleton, S_succ hk]
    rfl
  · rintro _ ⟨x, rfl⟩
    walk_at "mp"
    rfl
theorem rows_ok (w : List Nat) (hl : w.length ≤ 1000) (hs : w.sum ≤ 8388608) : run F_rows_of [.tup ((starts w).map dN)] = .ok (.tup ((rows w).map dN)) := by
  unfold F_rows_of
  refine RnE (by rfl) ?_
  walk_at "mp"
  rw [starts_len]
  refine ⟨by omega, WO_forRng (fun k e => ∃ x y : D, e = [.tup ((starts w).map dN), .lst (((List.range (S w k)).map (rowOf w)).map dN), x, y]) ⟨.un, .un, rfl⟩ ?_ ?_⟩
  · rintro k hk _ ⟨x, y, rfl⟩
    unfold F_rows_of_b2
    have hk' : k < w.length := by omega
    have e1 : getA (starts w) (0 + (k : Int)) = S w k := by rw [getA_nat k (by omega) (by rw [starts_len]; omega), starts_at]
    have e2 : getA (starts w) (0 + (k : Int) + 1) = S w (k + 1) := by rw [getA_nat (k + 1) (by omega) (by rw [starts_len]; omega), starts_at]
    walk_at "mp"
    rw [e1, e2, starts_len]
    have hb := S_le (w := w) (k := k)
    have hb1 := S_le (w := w) (k := k + 1)
    have hm := S_succ hk'
    refine ⟨inB_nat (by omega) (by omega), inB_nat (by omega) (by omega), by omega, ?_⟩
    refine WO_forRng (fun j e => ∃ y : D, e = [.tup ((starts w).map dN), .lst (((List.range (S w k + j)).map (rowOf w)).map dN), .int (0 + (k : Int)), y]) ⟨y, rfl⟩ ?_ ?_
    · rintro j hj _ ⟨y, rfl⟩
      unfold F_rows_of_b1
      walk_at "mp"
      refine ⟨lim_app (by simp; omega), .int ((S w k : Nat) + (j : Int)), ?_⟩
      rw [← Nat.add_assoc, List.range_succ, List.map_append, List.map_append, List.map_singleton, List.map_singleton, rowOf_eq hk' (by omega) (by omega)]
      simp
    · rintro _ ⟨y, rfl⟩
      have : S w k + ((S w (k + 1) : Nat) - (S w k : Nat) : Int).toNat = S w (k + 1) := by omega
      rw [this]
      exact ⟨_, _, rfl⟩
  · rintro _ ⟨x, y, rfl⟩
    walk_at "mp"
    have : (((w.length + 1 : Nat) : Int) - 1 - 0).toNat = w.length := by omega
    rw [this, S_all (Nat.le_refl _)]
    rfl

/-! ### check_roads -/
theorem sx_none {n d : Nat} : sx n d none = d := rfl
theorem sx_nat {n d k : Nat} : sx n d (some (k : Int)) = min k n := by
  show (if (k : Int) < 0 then ((k : Int) + n).toNat else min (k : Int).toNat n) = _
  rw [if_neg (by omega), Int.toNat_natCast]
theorem cut_take {a : Type} {f : a → D} {l : List a} {k : Nat} : cutL (l.map f) (sx (l.map f).length 0 none) (sx (l.map f).length (l.map f).length (some (k : Int))) = (l.take k).map f := by
  unfold cutL
  rw [sx_none, sx_nat, List.length_map, List.drop_zero, Nat.sub_zero, ← List.map_take]
  congr 1
  rcases Nat.le_total k l.length with h | h
  · rw [Nat.min_eq_left h]
  · rw [Nat.min_eq_right h, List.take_of_length_le h, List.take_of_length_le (Nat.le_refl _)]
theorem cut_drop {a : Type} {f : a → D} {l : List a} {k : Nat} : cutL (l.map f) (sx (l.map f).length 0 (some (k : Int))) (sx (l.map f).length (l.map f).length none) = (l.drop k).map f := by
  unfold cutL
  rw [sx_none, sx_nat, List.length_map]
  rcases Nat.le_total k l.length with h | h
  · rw [Nat.min_eq_left h, ← List.map_drop, List.take_of_length_le (by simp)]
  · rw [Nat.min_eq_right h, ← List.map_drop, List.drop_of_length_le h, List.drop_of_length_le (Nat.le_refl _)]
    simp
theorem eqD_dP {p q : Nat × Nat} : eqD (dP p) (dP q) = decide (p = q) := by
  obtain ⟨a, b⟩ := p
  obtain ⟨c, d⟩ := q
  simp only [eqD, eqL, Bool.and_true]
  by_cases h1 : a = c <;> by_cases h2 : b = d <;> simp [h1, h2] <;> omega
theorem memL_dP {p : Nat × Nat} {l : List (Nat × Nat)} : memL (dP p) (l.map dP) = decide (p ∈ l) := by
  induction l with
  | nil => rfl
  | cons q l ih =>
    rw [List.map_cons, memL, eqD_dP, ih]
    by_cases h1 : q = p
    · simp [h1]
    · have h2 : ¬ p = q := fun h => h1 h.symm
      simp [h1, h2]
theorem okL_map {a : Type} {f : a → D} {n : Nat} {l : List a} (h : ∀ x ∈ l, okD n (f x) = true) : okL n (l.map f) = true := by
  induction l with
  | nil => rfl
  | cons x l ih =>
    rw [List.map_cons, okL, h x List.mem_cons_self, ih (fun y hy => h y (List.mem_cons_of_mem _ hy))]
    rfl
abbrev se (r : Rd) : Nat × Nat := (r.1, r.2.1)
def Crs (r q : Rd) : Prop := if r.1 < q.1 then q.2.1 < r.2.1 else q.1 < r.1 ∧ r.2.1 < q.2.1
instance {r q : Rd} : Decidable (Crs r q) := by unfold Crs; infer_instance
theorem RdIn.rows {w : List Nat} {r : Rd} (h : RdIn w r) : r.1 < w.sum ∧ r.2.1 < w.sum ∧ rowOf w r.2.1 = rowOf w r.1 + 1 := by
  obtain ⟨k, hk, h1, h2, h3, h4⟩ := h
  have a := S_le (w := w) (k := k + 1)
  have b := S_le (w := w) (k := k + 2)
  exact ⟨by omega, by omega, by rw [rowOf_eq hk h3 h4, rowOf_eq (by omega) h1 h2]⟩
theorem joins_ok (w : List Nat) (r : Rd) (h : RdIn w r) : run F_joins_rows [.tup ((rows w).map dN), dR r] = .ok (.bl true) := by
  obtain ⟨h1, h2, h3⟩ := h.rows
  unfold F_joins_rows
  refine RnE (by rfl) ?_
  have e1 : getA (rows w) (r.1 : Int) = rowOf w r.1 := by rw [getA_nat r.1 rfl (by rw [rows_len]; exact h1), rows_at]
  have e2 : getA (rows w) (r.2.1 : Int) = rowOf w r.2.1 := by rw [getA_nat r.2.1 rfl (by rw [rows_len]; exact h2), rows_at]
  walk_at "mp"
  rw [e1, e2, rows_len]
  walk_at "br"
  rw [h3]
  simp
theorem W_evE {e : E} {s : Sf} {env : List D} {d : D} (h : W (ev e s env) (fun x => d = x) (fun _ => False)) : ev e s env = .ok d := by
  obtain ⟨x, e, rfl⟩ := h.get
  exact e
theorem lcF_eq {elt : E} {i : Nat} {s : Sf} {env : List D} {x y : D} (h : W (ev elt s (env.set i x)) (fun d => y = d) (fun _ => False)) : lcF elt [i] [] s env x = .ok (some y) := by
  obtain ⟨z, e, rfl⟩ := (W_lcF1 (Q := fun o => o = some y) ▸ (h.mono (fun _ z => by rw [z]) (fun _ z => z)) : W (lcF elt [i] [] s env x) (fun o => o = some y) (fun _ => False)).get
  exact e
theorem double_ok (l : List Rd) (r : Rd) (hl : l.length ≤ 16777216) : run F_is_double [.tup (l.map dR), dR r] = .ok (.bl (decide (se r ∈ l.map se))) := by
  unfold F_is_double
  refine RnE (by rfl) ?_
  walk_at "mp"
  refine W_lcGo (h := fun r => dP (se r)) ?_ ⟨by simpa [LIM] using hl, ?_⟩
  · intro x hx
    refine lcF_eq ?_
    unfold F_is_double_e1
    walk_at "mp"
  · show W (memD (dP (se r)) (.lst (l.map fun r => dP (se r)))) _ _
    have e : l.map (fun r => dP (se r)) = (l.map se).map dP := by rw [List.map_map]; rfl
    unfold memD
    rw [e, W_need, W_ok, memL_dP, okL_map (fun p _ => rfl)]
    exact ⟨rfl, rfl⟩
theorem cross_ok (r q : Rd) : run F_do_cross [dR r, dR q] = .ok (.bl (decide (Crs r q))) := by
  unfold F_do_cross
  refine RnE (by rfl) ?_
  walk_at "mp"
  refine ⟨fun h => ?_, fun h => ⟨fun h1 => ?_, fun h1 => ?_⟩⟩
  · congr 1
    unfold Crs
    simp only [show r.1 < q.1 by omega, if_true]
    exact decide_eq_decide.mpr (by omega)
  · congr 1
    unfold Crs
    simp only [show ¬ r.1 < q.1 by omega, if_false]
    exact decide_eq_decide.mpr (by omega)
  · congr 1
    unfold Crs
    simp only [show ¬ r.1 < q.1 by omega, if_false]
    exact decide_eq_decide.mpr (by omega)

theorem crossed_ok (l : List Rd) (r : Rd) (hl : l.length ≤ 8388608) (h : ∀ q ∈ l, ¬ Crs q r) : run F_first_crossed [.tup (l.map dR), dR r] = .ok .non := by
  unfold F_first_crossed
  refine RnE (by rfl) ?_
  walk_at "mp"
  refine ⟨by omega, WO_forRng (fun k e => ∃ x : D, e = [.tup (l.map dR), dR r, x]) ⟨.un, rfl⟩ ?_ ?_⟩
  · rintro k hk _ ⟨x, rfl⟩
    unfold F_first_crossed_b1
    have hk' : k < l.length := by omega
    have e : getA l (0 + (k : Int)) = l[k] := getA_nat k (by omega) hk'
    walk_at "mp"
    refine ⟨inB_nat (by omega) (by omega), W.by (cross_ok (getA l (0 + (k : Int))) r) ?_⟩
    rw [e, decide_eq_false (h _ (List.getElem_mem hk'))]
    walk_at "mp"
    exact ⟨_, rfl⟩
  · rintro _ ⟨x, rfl⟩
    trivial
/-- the roads join rows, no two have the same ends, no two cross: in any order -/
structure RsOK (w : List Nat) (ls : List Rd) : Prop where
  rd : ∀ r ∈ ls, RdIn w r
  dbl : ls.Pairwise fun r q => se r ≠ se q
  crs : ls.Pairwise fun r q => ¬ Crs r q
theorem pw_take {a : Type} {p : a → a → Prop} {l : List a} (h : l.Pairwise p) {k : Nat} (hk : k < l.length) : ∀ q ∈ l.take k, p q l[k] := by
  intro q hq
  obtain ⟨j, hj, rfl⟩ := List.mem_iff_getElem.mp hq
  have hj' : j < k := by simp at hj; omega
  rw [List.getElem_take]
  exact List.pairwise_iff_getElem.mp h j k (by omega) hk hj'
theorem check_ok (w : List Nat) (ls : List Rd) (hw : WOK w) (h : RsOK w ls) (hl : ls.length ≤ 100000) : run F_check_roads [.tup ((starts w).map dN), .tup (ls.map dR)] = .ok .non := by
  have h1 := hw.l2
  have h2 := hw.sum
  unfold F_check_roads
  refine RnE (by rfl) ?_
  walk_at "mp"
  refine W.by (rows_ok w (by omega) (by omega)) ?_
  walk_at "mp"
  refine ⟨by omega, WO_forRng (fun k e => ∃ x y : D, e = [.tup ((starts w).map dN), .tup (ls.map dR), .tup ((rows w).map dN), x, y]) ⟨.un, .un, rfl⟩ ?_ ?_⟩
  · rintro k hk _ ⟨x, y, rfl⟩
    unfold F_check_roads_b1
    have hk' : k < ls.length := by omega
    have e : getA ls (0 + (k : Int)) = ls[k] := getA_nat k (by omega) hk'
    have z : (0 : Int) + (k : Int) = (k : Int) := by omega
    have ht : (ls.take k).length ≤ 100000 := by simp; omega
    have hm := List.getElem_mem hk'
    walk_at "mp"
    rw [e, z]
    refine ⟨inB_nat (by omega) (by omega), W.by (joins_ok w ls[k] (h.rd _ hm)) ?_⟩
    have c := cut_take (f := dR) (l := ls) (k := k)
    rw [List.length_map] at c
    have hd := double_ok (ls.take k) ls[k] (by omega)
    rw [decide_eq_false (fun q => by
      obtain ⟨q, hq, e⟩ := List.mem_map.mp q
      exact pw_take h.dbl hk' q hq e)] at hd
    have hc := crossed_ok (ls.take k) ls[k] (by omega) (pw_take h.crs hk')
    walk_at "mp"
    have e' : getA ls (k : Int) = ls[k] := getA_nat k rfl hk'
    rw [c, e']
    refine ⟨inB_nat (by omega) (by omega), W.by hd ?_⟩
    walk_at "mp"
    rw [c, e']
    refine ⟨inB_nat (by omega) (by omega), W.by hc ?_⟩
    walk_at "mp"
    exact ⟨_, _, rfl⟩
  · rintro _ ⟨x, y, rfl⟩
    rfl
end MpL

/-! PlNet2: links_of, least_prices, pairs_of -/
namespace MpL
open Mp MpP
local macro_rules | `(tactic| walk_at "mp") => `(tactic| try simp -implicitDefEqProofs -dsimp only [List.take_succ_cons, List.take_zero, List.drop_succ_cons, List.drop_zero, Mp.WO_nil, Mp.wn_nx, Mp.wn_rt, Mp.wn_br, Mp.wn_ct, Mp.wn_ex, Mp.wl_nx, Mp.wl_rt, Mp.wl_br, Mp.wl_ct, Mp.wl_ex, Mp.WO_cons, Mp.WO_set, Mp.WO_sets, Mp.WO_app, Mp.WO_put, Mp.WO_exp, Mp.WO_ifs, Mp.WO_ret, Mp.WO_retN, Mp.WO_pas, Mp.WO_brk, Mp.WO_cnt, Mp.WO_wall, Mp.WO_rse, Mp.WO_apop, Mp.W_xat, Mp.W_xis, Mp.W_rvs, Mp.W_xatI, Mp.W_xisI, Mp.W_rvsL, Mp.putG_nil, Mp.putOk_lst, Mp.putOk_dF, Mp.putOk_tup, Mp.fmOk, and_false, false_and, Mp.WO_for, Mp.WO_forF1, Mp.WO_forF2, Mp.WO_forF3, Mp.WO_whl, Mp.W_nm, Mp.W_nma, Mp.W_alj, Mp.WO_ali, Mp.W_aljD, Mp.W_nmaD, Mp.W_cst, Mp.W_bin, Mp.W_neg, Mp.W_nt, Mp.W_bop, Mp.W_evb1, Mp.W_evb, Mp.W_cmp, Mp.W_isn, Mp.W_ife, Mp.W_chn, Mp.W_tupE, Mp.W_lstE, Mp.W_dctE, Mp.W_ix, Mp.W_sl, Mp.W_att, Mp.W_call, Mp.W_slf, Mp.W_meth, Mp.W_mk, Mp.W_blt, Mp.W_isi, Mp.W_bm, Mp.W_rng, Mp.W_zipE, Mp.W_enumE, Mp.W_revE, Mp.W_lc, Mp.W_dc, Mp.W_evs0, Mp.W_evs, Mp.W_evc0, Mp.W_evc, Mp.W_ok, Mp.W_exc, Mp.W_bad, Mp.W_bind, Mp.W_nox, Mp.W_of, Mp.W_need, Mp.W_gS, Mp.W_g_un, Mp.W_g_non, Mp.W_g_bl, Mp.W_g_int, Mp.W_g_str, Mp.W_g_tup, Mp.W_g_lst, Mp.W_g_dct, Mp.W_g_ins, Mp.W_g_scr, List.getElem?_cons_zero, List.getElem?_cons_succ, List.set_cons_zero, List.set_cons_succ, List.cons_append, List.nil_append, List.replicate_succ, List.replicate_zero, Nat.reduceAdd, Nat.reduceSub, Mp.W_opAdd, Mp.W_opSub, Mp.W_opMul, Mp.W_opDiv, Mp.W_opMod, Mp.W_opPow, Mp.W_opCat, Mp.W_opCatT, Mp.W_opRep, List.length_cons, List.length_nil, Mp.W_eqRI, Mp.W_lcF1, Mp.W_lcFc, Mp.cmpD, Mp.truD, Mp.isNon, Mp.W_ixL, Mp.W_ixT, Mp.W_ixS, Mp.W_ix20, Mp.W_ix60, Mp.W_ix61, Mp.W_ix62, Mp.W_ix63, Mp.W_ix64, Mp.W_ix65, Mp.W_ix21, Mp.W_ix30, Mp.W_ix31, Mp.W_ix32, Mp.slD, Mp.toP, Mp.negD, Mp.items, Mp.W_rngD, Mp.zipD, Mp.enumD, Mp.revD, Mp.W_lenL, Mp.W_lenT, Mp.W_lenC, Mp.W_intI, Mp.W_listL, Mp.W_listT, Mp.W_tupL, Mp.W_tupT, Mp.W_min2, Mp.W_max2, Mp.W_absI, Mp.W_sortL, Mp.bmD, Mp.rcv, Mp.setTg, Mp.setAll, Mp.locD_nil, Mp.muAt_nil, Mp.W_muApp, Mp.W_muDct, Mp.W_att_cons, Mp.WO_setFc, Mp.fputF, Mp.fputV, ↓reduceIte, Nat.reduceEqDiff, Mp.W_isi_non_int, Mp.W_isi_non_bool, Mp.W_isi_non_str, Mp.W_isi_non_list, Mp.W_isi_non_tuple, Mp.W_isi_bl_int, Mp.W_isi_bl_bool, Mp.W_isi_bl_str, Mp.W_isi_bl_list, Mp.W_isi_bl_tuple, Mp.W_isi_int_int, Mp.W_isi_int_bool, Mp.W_isi_int_str, Mp.W_isi_int_list, Mp.W_isi_int_tuple, Mp.W_isi_str_int, Mp.W_isi_str_bool, Mp.W_isi_str_str, Mp.W_isi_str_list, Mp.W_isi_str_tuple, Mp.W_isi_tup_int, Mp.W_isi_tup_bool, Mp.W_isi_tup_str, Mp.W_isi_tup_list, Mp.W_isi_tup_tuple, Mp.W_isi_lst_int, Mp.W_isi_lst_bool, Mp.W_isi_lst_str, Mp.W_isi_lst_list, Mp.W_isi_lst_tuple, Mp.W_isi_ins_int, Mp.W_isi_ins_bool, Mp.W_isi_ins_str, Mp.W_isi_ins_list, Mp.W_isi_ins_tuple, Mp.isCls_ins, Mp.ite_bl, Mp.ite_bf, Mp.ite_pp, List.length_map, decide_eq_true_eq, beq_iff_eq, beq_eq_false_iff_ne, decide_eq_false_iff_not, Option.some.injEq, Mp.D.lst.injEq, exists_eq_left', exists_eq_left, Bool.not_eq_true', Bool.not_eq_false', beq_self_eq_true, Bool.not_true, Bool.not_false, reduceCtorEq, false_implies, not_true_eq_false, not_false_eq_true, implies_true, true_and, and_true, true_implies, forall_const, if_true, if_false])
local macro_rules | `(tactic| walk_at "br") => `(tactic| (repeat' (first | apply And.intro | intro _)) <;> (first | omega | exact Mp.inB_nat (by omega) (by omega) | skip))
/-! ### tables -/
theorem set_map {a : Type} {f : a → D} {l : List a} {k : Nat} {x : a} : (l.map f).set k (f x) = (l.set k x).map f := by rw [List.map_set]
/-- for each place the ends of the steps that begin there -/
def links (n : Nat) (st : List (Nat × Nat)) : List (List Nat) := (List.range n).map fun p => (st.filter fun s => s.1 == p).map (·.2)
abbrev dNs (l : List Nat) : D := .lst (l.map dN)
abbrev dNt (l : List Nat) : D := .tup (l.map dN)
theorem links_len {n : Nat} {st : List (Nat × Nat)} : (links n st).length = n := by simp [links]
theorem links_at {n : Nat} {st : List (Nat × Nat)} {p : Nat} (h : p < (links n st).length) : (links n st)[p] = (st.filter fun s => s.1 == p).map (·.2) := by simp [links]
theorem links_app {n : Nat} {st : List (Nat × Nat)} {s : Nat × Nat} (h : s.1 < n) : links n (st ++ [s]) = (links n st).set s.1 ((st.filter fun q => q.1 == s.1).map (·.2) ++ [s.2]) := by
  refine List.ext_getElem (by simp [links]) fun p h1 h2 => ?_
  rw [links_at, List.getElem_set]
  by_cases q : s.1 = p
  · subst q; simp
  · rw [if_neg q, links_at]; simp [q]
/-- append to the list at place i of a list of lists -/
theorem muAt_app {a b : Type} {f : a → D} {g : b → D} {T : List (List b)} {i : Int} {x : b} (k : Nat) (hi : i = (k : Int)) (hk : k < T.length) (hl : T[k].length < 16777216) :
    muAt .app [g x] [.int i] (.lst (T.map fun l => .lst (l.map g))) = .ok (.lst ((T.set k (T[k] ++ [x])).map fun l => .lst (l.map g))) := by
  have e1 : ixL T.length i = some k := ixL_nat hi hk
  have e2 : (T.map fun l => D.lst (l.map g))[k]? = some (.lst (T[k].map g)) := by rw [List.getElem?_map, List.getElem?_eq_getElem hk]; rfl
  simp only [muAt, List.length_map, e1, e2, muD, show T[k].length < LIM from hl, if_true, R.bind_ok]
  rw [map_app1, List.map_set]
theorem locD_at {b : Type} {g : b → D} {T : List (List b)} {i : Int} (k : Nat) (hi : i = (k : Int)) (hk : k < T.length) :
    locD [.int i] (.lst (T.map fun l => .lst (l.map g))) = some (.lst (T[k].map g)) := by
  have e1 : ixL T.length i = some k := ixL_nat hi hk
  have e2 : (T.map fun l => D.lst (l.map g))[k]? = some (.lst (T[k].map g)) := by rw [List.getElem?_map, List.getElem?_eq_getElem hk]; rfl
  simp only [locD, List.length_map, e1, e2]
theorem links_ok (n : Nat) (st : List (Nat × Nat)) (hn : n ≤ 1000) (hs : ∀ s ∈ st, s.1 < n) (hl : st.length ≤ 100000) : run F_links_of [.int n, .lst (st.map dP)] = .ok (.tup ((links n st).map dNt)) := by
  unfold F_links_of
  refine RnE (by rfl) ?_
  walk_at "mp"
  refine ⟨by omega, ?_⟩
  rw [rngL_map]
  refine W_lcGo (h := fun _ => D.lst []) (fun x _ => lcF_eq (by unfold F_links_of_e1; walk_at "mp")) ?_
  have e0 : (List.range ((n : Int) - 0).toNat).map (fun _ => D.lst []) = (links n []).map dNs := by
    simp [links]
  rw [e0]
  walk_at "mp"
  refine ⟨by simp [links, LIM]; omega, ?_⟩
  refine WO_forMap (fun k e => ∃ x y z : D, e = [.int n, .lst (st.map dP), .lst ((links n (st.take k)).map dNs), x, y, z]) ⟨_, _, _, rfl⟩ ?_ ?_
  · rintro k hk _ ⟨x, y, z, rfl⟩
    unfold F_links_of_b2
    have h1 : st[k].1 < (links n (st.take k)).length := by rw [links_len]; exact hs _ (List.getElem_mem hk)
    have h2 : (links n (st.take k))[st[k].1].length < 16777216 := by
      rw [links_at, List.length_map]
      have := List.length_filter_le (fun s => s.1 == st[k].1) (st.take k)
      simp at this ⊢
      omega
    have m := muAt_app (g := dN) (T := links n (st.take k)) (x := st[k].2) st[k].1 rfl h1 h2 (f := dN)
    have l := locD_at (g := dN) (T := links n (st.take k)) st[k].1 rfl h1
    walk_at "mp"
    rw [l]
    refine ⟨_, rfl, ?_⟩
    walk_at "mp"
    refine W.by m ⟨dP st[k], y, z, ?_⟩
    rw [List.take_succ_eq_append_getElem hk, links_app (hs _ (List.getElem_mem hk)), links_at]
    rfl
  · rintro _ ⟨x, y, z, rfl⟩
    rw [List.take_of_length_le (Nat.le_refl _)]
    walk_at "mp"
    refine W_lcGo (g := dNs) (h := dNt) (fun l _ => lcF_eq (by unfold F_links_of_e3; walk_at "mp")) ?_
    walk_at "mp"
    simp [links, LIM]; omega

/-! ### least prices -/
abbrev dO (o : Option Int) : D := match o with
  | none => .non
  | some i => .int i
abbrev dOs (l : List (Option Int)) : D := .lst (l.map dO)
def low (p : Int) (e r : Option Int) : Option Int := match r, e with
  | none, e => e
  | some r, none => some (p + r)
  | some r, some e => if e ≤ p + r then some e else some (p + r)
theorem getE_dO {o : Option Int} {env : List D} {Q : D → Prop} {E : D → Prop} : W (getE (dO o :: env) 0) Q E = Q (dO o) := by cases o <;> rfl
theorem lower_ok (l b : List (Option Int)) (p : Int) (hl : l.length ≤ 100000) : run F_lower_line [dOs l, .int p, dOs b] = .ok (dOs (List.zipWith (low p) l b)) := by
  unfold F_lower_line
  refine RnE (by rfl) ?_
  walk_at "mp"
  have e : List.map (fun q : D × D => D.tup [q.1, q.2]) ((l.map dO).zip (b.map dO)) = (l.zip b).map (fun q => D.tup [dO q.1, dO q.2]) := by
    rw [List.zip_map, List.map_map]; rfl
  rw [e]
  refine WO_forMap (fun k e => ∃ x y : D, e = [dOs l, .int p, dOs b, dOs (((l.zip b).take k).map fun q => low p q.1 q.2), x, y]) ⟨_, _, rfl⟩ ?_ ?_
  · rintro k hk _ ⟨x, y, rfl⟩
    unfold F_lower_line_b1
    rw [List.take_succ_eq_append_getElem hk, List.map_append, List.map_singleton]
    generalize (l.zip b)[k] = q
    obtain ⟨e, r⟩ := q
    have hlen : (List.take k (l.zip b)).length < 16777216 := by simp; omega
    cases r with
    | none =>
      cases e with
      | none =>
        walk_at "mp"
        exact ⟨lim_app (by simpa using hlen), dO none, dO none, by rw [show ([D.non] : List D) = [dO none] from rfl, map_app1]; rfl⟩
      | some e =>
        walk_at "mp"
        exact ⟨lim_app (by simpa using hlen), dO (some e), dO none, by rw [show ([D.int e] : List D) = [dO (some e)] from rfl, map_app1]; rfl⟩
    | some r =>
      cases e with
      | none =>
        walk_at "mp"
        exact ⟨lim_app (by simpa using hlen), dO none, dO (some r), by rw [show ([D.int (p + r)] : List D) = [dO (some (p + r))] from rfl, map_app1]; rfl⟩
      | some e =>
        walk_at "mp"
        refine ⟨fun h => ⟨lim_app (by simpa using hlen), .int e, .int r, ?_⟩, fun h => ⟨lim_app (by simpa using hlen), .int e, .int r, ?_⟩⟩
        · rw [show ([D.int e] : List D) = [dO (some e)] from rfl, map_app1]; simp [low, h]
        · rw [show ([D.int (p + r)] : List D) = [dO (some (p + r))] from rfl, map_app1]; simp [low, h]
  · rintro _ ⟨x, y, rfl⟩
    rw [List.take_of_length_le (Nat.le_refl _)]
    walk_at "mp"
    rw [List.map_zip_eq_zipWith]
    rfl

def tab {a : Type} (n : Nat) (f : Nat → Nat → a) : List (List a) := (List.range n).map fun s => (List.range n).map fun g => f s g
theorem tab_len {a : Type} {n : Nat} {f : Nat → Nat → a} : (tab n f).length = n := by simp [tab]
theorem tab_at {a : Type} {n : Nat} {f : Nat → Nat → a} {s : Nat} (h : s < (tab n f).length) : (tab n f)[s] = (List.range n).map fun g => f s g := by simp [tab]
theorem tab_ext {a : Type} {n : Nat} {f g : Nat → Nat → a} (h : ∀ s < n, ∀ t < n, f s t = g s t) : tab n f = tab n g := by
  unfold tab
  refine List.map_congr_left fun s hs => List.map_congr_left fun t ht => ?_
  exact h s (List.mem_range.mp hs) t (List.mem_range.mp ht)
theorem tab_set {a : Type} {n : Nat} {f : Nat → Nat → a} {s : Nat} {h : Nat → a} : (tab n f).set s ((List.range n).map h) = tab n fun x g => if x = s then h g else f x g := by
  refine List.ext_getElem (by simp [tab]) fun p h1 h2 => ?_
  rw [List.getElem_set, tab_at]
  by_cases q : s = p
  · subst q
    rw [if_pos rfl, tab_at]
    refine List.map_congr_left fun t _ => ?_
    rw [if_pos rfl]
  · rw [if_neg q, tab_at]
    refine List.map_congr_left fun t _ => ?_
    rw [if_neg (fun e => q e.symm)]
theorem row_set {a : Type} {n : Nat} {f : Nat → a} {g : Nat} {x : a} : ((List.range n).map f).set g x = (List.range n).map fun t => if t = g then x else f t := by
  refine List.ext_getElem (by simp) fun p h1 h2 => ?_
  rw [List.getElem_set]
  by_cases q : g = p
  · subst q; simp
  · rw [if_neg q]
    simp only [List.getElem_map, List.getElem_range]
    rw [if_neg (fun e => q e.symm)]
def lp : List Rd → Nat → Nat → Option Int
  | [], s, g => if s = g then some 0 else none
  | r :: rs, s, g => if s = r.1 then low r.2.2 (lp rs s g) (lp rs r.2.1 g) else lp rs s g
theorem muD_put {b : Type} {g : b → D} {l : List b} {i : Int} {x : b} (k : Nat) (hi : i = (k : Int)) (hk : k < l.length) :
    muD .put [.int i, g x] (.lst (l.map g)) = .ok (.lst ((l.set k x).map g)) := by
  have e1 : ixL l.length i = some k := ixL_nat hi hk
  simp only [muD, List.length_map, e1]
  rw [List.map_set]
/-- an entry of a table is stored -/
theorem muAt_put {b : Type} {g : b → D} {T : List (List b)} {i j : Int} {x : b} (k m : Nat) (hi : i = (k : Int)) (hj : j = (m : Int)) (hk : k < T.length) (hm : m < T[k].length) :
    muAt .put [.int j, g x] [.int i] (.lst (T.map fun l => .lst (l.map g))) = .ok (.lst ((T.set k (T[k].set m x)).map fun l => .lst (l.map g))) := by
  have e1 : ixL T.length i = some k := ixL_nat hi hk
  have e2 : (T.map fun l => D.lst (l.map g))[k]? = some (.lst (T[k].map g)) := by rw [List.getElem?_map, List.getElem?_eq_getElem hk]; rfl
  simp only [muAt, List.length_map, e1, e2, muD_put m hj hm, R.bind_ok]
  rw [List.map_set (f := fun l : List b => D.lst (l.map g))]
theorem least_ok (n : Nat) (rs : List Rd) (hn : n ≤ 1000) (h : ∀ r ∈ rs, r.1 < n ∧ r.2.1 < n) : run F_least_prices [.int n, .tup (rs.map dR)] = .ok (.lst ((tab n (lp rs)).map dOs)) := by
  unfold F_least_prices
  refine RnE (by rfl) ?_
  walk_at "mp"
  refine ⟨by omega, ?_⟩
  rw [rngL_map]
  have hz : (List.replicate n [D.non]).flatten = (List.replicate n (none : Option Int)).map dO := by
    rw [List.flatten_replicate_singleton, List.map_replicate]
  refine W_lcGo (h := fun _ => dOs (List.replicate n none)) (fun x _ => lcF_eq (by
    unfold F_least_prices_e1
    walk_at "mp"
    rw [Int.toNat_natCast, hz]
    refine ⟨⟨by omega, by omega, by simp [LIM]; omega⟩, rfl⟩)) ?_
  have e0 : (List.range ((n : Int) - 0).toNat).map (fun _ => dOs (List.replicate n none)) = (tab n fun _ _ => (none : Option Int)).map dOs := by
    rw [show ((n : Int) - 0).toNat = n by omega, tab, List.map_map]
    refine List.map_congr_left fun s _ => ?_
    show _ = dOs ((List.range n).map fun _ => none)
    rw [List.map_const', List.length_range]
  rw [e0]
  walk_at "mp"
  rw [tab_len]
  refine ⟨by simp [LIM]; omega, by omega, ?_⟩
  refine WO_forRng (fun k e => ∃ x y z : D, e = [.int n, .tup (rs.map dR), .lst ((tab n fun s g => if s = g ∧ s < k then some (0 : Int) else none).map dOs), x, y, z]) ⟨.un, .un, .un, by
    rw [tab_ext (g := fun s g => if s = g ∧ s < 0 then some (0 : Int) else none) (fun s _ t _ => by simp)]⟩ ?_ ?_
  · rintro k hk _ ⟨x, y, z, rfl⟩
    unfold F_least_prices_b2
    have hk' : k < n := by omega
    have h1 : k < (tab n fun s g => if s = g ∧ s < k then some (0 : Int) else none).length := by rw [tab_len]; exact hk'
    have m := muAt_put (g := dO) (T := tab n fun s g => if s = g ∧ s < k then some (0 : Int) else none) (i := 0 + (k : Int)) (j := 0 + (k : Int)) (x := some 0) k k (by omega) (by omega) h1 (by rw [tab_at]; simpa using hk')
    have l := locD_at (g := dO) (T := tab n fun s g => if s = g ∧ s < k then some (0 : Int) else none) (i := 0 + (k : Int)) k (by omega) h1
    walk_at "mp"
    refine ⟨⟨_, l⟩, (putG_of l).trans rfl, W.by m ⟨.int (0 + (k : Int)), y, z, ?_⟩⟩
    rw [tab_at, row_set, tab_set]
    have e : ∀ (A : Nat → Nat → Option Int), (∀ s < n, ∀ t < n, A s t = if s = t ∧ s < k + 1 then some (0 : Int) else none) → tab n A = tab n fun s t => if s = t ∧ s < k + 1 then some (0 : Int) else none := fun A h => tab_ext h
    rw [← e]
    · rfl
    · intro s hs t ht
      by_cases q : s = k
      · subst q
        by_cases q2 : t = s
        · subst q2; simp
        · rw [if_pos rfl, if_neg q2, if_neg (fun h => q2 h.1.symm), if_neg (fun h => q2 h.1.symm)]
      · simp only [if_neg q]
        by_cases q2 : s = t
        · simp only [q2, true_and]
          subst q2
          by_cases q3 : s < k
          · simp [q3, show s < k + 1 by omega]
          · simp [q3, show ¬ s < k + 1 by omega]
        · simp [q2]
  · rintro _ ⟨x, y, z, rfl⟩
    walk_at "mp"
    have e1 : ((n : Int) - 0).toNat = n := by omega
    have e2 : (rs.map dR).reverse = rs.reverse.map dR := by rw [List.map_reverse]
    rw [e1, e2]
    refine WO_forMap (fun k e => ∃ y : D, e = [.int n, .tup (rs.map dR), .lst ((tab n (lp (rs.reverse.take k).reverse)).map dOs), x, y, z]) ⟨y, by
      rw [tab_ext (g := lp (rs.reverse.take 0).reverse) (fun s hs t _ => by simp [lp, hs])]⟩ ?_ ?_
    · rintro k hk _ ⟨y, rfl⟩
      unfold F_least_prices_b3
      have hr := h _ (List.mem_reverse.mp (List.getElem_mem hk))
      rw [List.take_succ_eq_append_getElem hk, List.reverse_append]
      generalize rs.reverse[k] = r at hr
      generalize (rs.reverse.take k).reverse = pr
      have a1 : getA (tab n (lp pr)) (r.1 : Int) = (List.range n).map (lp pr r.1) := by rw [getA_nat r.1 rfl (by rw [tab_len]; exact hr.1), tab_at]
      have a2 : getA (tab n (lp pr)) (r.2.1 : Int) = (List.range n).map (lp pr r.2.1) := by rw [getA_nat r.2.1 rfl (by rw [tab_len]; exact hr.2), tab_at]
      walk_at "mp"
      rw [a1, a2, tab_len]
      refine ⟨inB_nat (by omega) (by omega), inB_nat (by omega) (by omega), W.by (lower_ok _ _ _ (by simp; omega)) ?_⟩
      walk_at "mp"
      refine ⟨⟨_, rfl⟩, W.by (muD_put (g := dOs) r.1 rfl (by rw [tab_len]; exact hr.1)) ⟨dR r, ?_⟩⟩
      rw [List.zipWith_map, List.zipWith_self, tab_set]
      have e : ∀ (A : Nat → Nat → Option Int), (∀ s < n, ∀ t < n, A s t = lp ([r].reverse ++ pr) s t) → tab n A = tab n (lp ([r].reverse ++ pr)) := fun A h => tab_ext h
      rw [← e]
      · rfl
      · intro s hs t ht
        show _ = if s = r.1 then _ else _
        by_cases q : s = r.1
        · subst q; simp
        · simp [q]
    · rintro _ ⟨y, rfl⟩
      rw [List.take_of_length_le (Nat.le_refl _), List.reverse_reverse]
      walk_at "mp"
end MpL

/-! PlNet3: pairs_of, sorted, Net -/
namespace MpL
open Mp MpP
local macro_rules | `(tactic| walk_at "mp") => `(tactic| try simp -implicitDefEqProofs -dsimp only [List.take_succ_cons, List.take_zero, List.drop_succ_cons, List.drop_zero, Mp.WO_nil, Mp.wn_nx, Mp.wn_rt, Mp.wn_br, Mp.wn_ct, Mp.wn_ex, Mp.wl_nx, Mp.wl_rt, Mp.wl_br, Mp.wl_ct, Mp.wl_ex, Mp.WO_cons, Mp.WO_set, Mp.WO_sets, Mp.WO_app, Mp.WO_put, Mp.WO_exp, Mp.WO_ifs, Mp.WO_ret, Mp.WO_retN, Mp.WO_pas, Mp.WO_brk, Mp.WO_cnt, Mp.WO_wall, Mp.WO_rse, Mp.WO_apop, Mp.W_xat, Mp.W_xis, Mp.W_rvs, Mp.W_xatI, Mp.W_xisI, Mp.W_rvsL, Mp.putG_nil, Mp.putOk_lst, Mp.putOk_dF, Mp.putOk_tup, Mp.fmOk, and_false, false_and, Mp.WO_for, Mp.WO_forF1, Mp.WO_forF2, Mp.WO_forF3, Mp.WO_whl, Mp.W_nm, Mp.W_nma, Mp.W_alj, Mp.WO_ali, Mp.W_aljD, Mp.W_nmaD, Mp.W_cst, Mp.W_bin, Mp.W_neg, Mp.W_nt, Mp.W_bop, Mp.W_evb1, Mp.W_evb, Mp.W_cmp, Mp.W_isn, Mp.W_ife, Mp.W_chn, Mp.W_tupE, Mp.W_lstE, Mp.W_dctE, Mp.W_ix, Mp.W_sl, Mp.W_att, Mp.W_call, Mp.W_slf, Mp.W_meth, Mp.W_mk, Mp.W_blt, Mp.W_isi, Mp.W_bm, Mp.W_rng, Mp.W_zipE, Mp.W_enumE, Mp.W_revE, Mp.W_lc, Mp.W_dc, Mp.W_evs0, Mp.W_evs, Mp.W_evc0, Mp.W_evc, Mp.W_ok, Mp.W_exc, Mp.W_bad, Mp.W_bind, Mp.W_nox, Mp.W_of, Mp.W_need, Mp.W_gS, Mp.W_g_un, Mp.W_g_non, Mp.W_g_bl, Mp.W_g_int, Mp.W_g_str, Mp.W_g_tup, Mp.W_g_lst, Mp.W_g_dct, Mp.W_g_ins, Mp.W_g_scr, List.getElem?_cons_zero, List.getElem?_cons_succ, List.set_cons_zero, List.set_cons_succ, List.cons_append, List.nil_append, List.replicate_succ, List.replicate_zero, Nat.reduceAdd, Nat.reduceSub, Mp.W_opAdd, Mp.W_opSub, Mp.W_opMul, Mp.W_opDiv, Mp.W_opMod, Mp.W_opPow, Mp.W_opCat, Mp.W_opCatT, Mp.W_opRep, List.length_cons, List.length_nil, Mp.W_eqRI, Mp.W_lcF1, Mp.W_lcFc, Mp.cmpD, Mp.truD, Mp.isNon, Mp.W_ixL, Mp.W_ixT, Mp.W_ixS, Mp.W_ix20, Mp.W_ix60, Mp.W_ix61, Mp.W_ix62, Mp.W_ix63, Mp.W_ix64, Mp.W_ix65, Mp.W_ix21, Mp.W_ix30, Mp.W_ix31, Mp.W_ix32, Mp.slD, Mp.toP, Mp.negD, Mp.items, Mp.W_rngD, Mp.zipD, Mp.enumD, Mp.revD, Mp.W_lenL, Mp.W_lenT, Mp.W_lenC, Mp.W_intI, Mp.W_listL, Mp.W_listT, Mp.W_tupL, Mp.W_tupT, Mp.W_min2, Mp.W_max2, Mp.W_absI, Mp.W_sortL, Mp.bmD, Mp.rcv, Mp.setTg, Mp.setAll, Mp.locD_nil, Mp.muAt_nil, Mp.W_muApp, Mp.W_muDct, Mp.W_att_cons, Mp.WO_setFc, Mp.fputF, Mp.fputV, ↓reduceIte, Nat.reduceEqDiff, Mp.W_isi_non_int, Mp.W_isi_non_bool, Mp.W_isi_non_str, Mp.W_isi_non_list, Mp.W_isi_non_tuple, Mp.W_isi_bl_int, Mp.W_isi_bl_bool, Mp.W_isi_bl_str, Mp.W_isi_bl_list, Mp.W_isi_bl_tuple, Mp.W_isi_int_int, Mp.W_isi_int_bool, Mp.W_isi_int_str, Mp.W_isi_int_list, Mp.W_isi_int_tuple, Mp.W_isi_str_int, Mp.W_isi_str_bool, Mp.W_isi_str_str, Mp.W_isi_str_list, Mp.W_isi_str_tuple, Mp.W_isi_tup_int, Mp.W_isi_tup_bool, Mp.W_isi_tup_str, Mp.W_isi_tup_list, Mp.W_isi_tup_tuple, Mp.W_isi_lst_int, Mp.W_isi_lst_bool, Mp.W_isi_lst_str, Mp.W_isi_lst_list, Mp.W_isi_lst_tuple, Mp.W_isi_ins_int, Mp.W_isi_ins_bool, Mp.W_isi_ins_str, Mp.W_isi_ins_list, Mp.W_isi_ins_tuple, Mp.isCls_ins, Mp.ite_bl, Mp.ite_bf, Mp.ite_pp, List.length_map, decide_eq_true_eq, beq_iff_eq, beq_eq_false_iff_ne, decide_eq_false_iff_not, Option.some.injEq, Mp.D.lst.injEq, exists_eq_left', exists_eq_left, Bool.not_eq_true', Bool.not_eq_false', beq_self_eq_true, Bool.not_true, Bool.not_false, reduceCtorEq, false_implies, not_true_eq_false, not_false_eq_true, implies_true, true_and, and_true, true_implies, forall_const, if_true, if_false])
local macro_rules | `(tactic| walk_at "br") => `(tactic| (repeat' (first | apply And.intro | intro _)) <;> (first | omega | exact Mp.inB_nat (by omega) (by omega) | skip))
/-- the pairs p with a start below k, in the order in which they are met -/
def metR (n : Nat) (L : Nat → Nat → Option Int) (s : Nat) (m : Nat) : List (Nat × Nat) := ((List.range m).filter fun j => (L s (s + 1 + j)).isSome).map fun j => (s, s + 1 + j)
def met (n : Nat) (L : Nat → Nat → Option Int) (k : Nat) : List (Nat × Nat) := (List.range k).flatMap fun s => metR n L s (n - (s + 1))
def gap (w : List Nat) (p : Nat × Nat) : Nat := rowOf w p.2 - rowOf w p.1
def groups (w : List Nat) (ps : List (Nat × Nat)) : List (List (Nat × Nat)) := (List.range w.length).map fun d => ps.filter fun p => gap w p == d
/-- all pairs in filling order -/
def pairs (w : List Nat) (L : Nat → Nat → Option Int) : List (Nat × Nat) := (groups w (met w.sum L w.sum)).flatten
theorem groups_len {w : List Nat} {ps : List (Nat × Nat)} : (groups w ps).length = w.length := by simp [groups]
theorem groups_at {w : List Nat} {ps : List (Nat × Nat)} {d : Nat} (h : d < (groups w ps).length) : (groups w ps)[d] = ps.filter fun p => gap w p == d := by simp [groups]
theorem groups_app {w : List Nat} {ps : List (Nat × Nat)} {p : Nat × Nat} : groups w (ps ++ [p]) = (groups w ps).set (gap w p) ((ps.filter fun q => gap w q == gap w p) ++ [p]) := by
  refine List.ext_getElem (by simp [groups]) fun d h1 h2 => ?_
  rw [groups_at, List.getElem_set]
  by_cases q : gap w p = d
  · subst q; simp
  · rw [if_neg q, groups_at]; simp [q]
theorem metR_succ {n : Nat} {L : Nat → Nat → Option Int} {s m : Nat} : metR n L s (m + 1) = metR n L s m ++ (if (L s (s + 1 + m)).isSome then [(s, s + 1 + m)] else []) := by
  unfold metR
  rw [List.range_succ, List.filter_append, List.map_append]
  congr 1
  by_cases h : (L s (s + 1 + m)).isSome <;> simp [h]
theorem met_succ {n : Nat} {L : Nat → Nat → Option Int} {k : Nat} : met n L (k + 1) = met n L k ++ metR n L k (n - (k + 1)) := by
  unfold met
  rw [List.range_succ, List.flatMap_append]
  simp
theorem metR_len {n : Nat} {L : Nat → Nat → Option Int} {s m : Nat} : (metR n L s m).length ≤ m := by
  unfold metR
  rw [List.length_map]
  have := List.length_filter_le (fun j => (L s (s + 1 + j)).isSome) (List.range m)
  simpa using this
theorem met_len {n : Nat} {L : Nat → Nat → Option Int} {k : Nat} : (met n L k).length ≤ k * n := by
  induction k with
  | zero => simp [met]
  | succ k ih =>
    rw [met_succ, List.length_append, Nat.add_mul]
    have := metR_len (n := n) (L := L) (s := k) (m := n - (k + 1))
    omega
theorem gap_lt {w : List Nat} {p : Nat × Nat} (h : p.2 < w.sum) : gap w p < w.length := by
  have := (rowOf_spec h).1
  unfold gap; omega
theorem flat_len {a : Type} {w : List Nat} {ps : List (Nat × Nat)} : ((groups w ps).flatten).length ≤ w.length * ps.length := by
  unfold groups
  induction w.length with
  | zero => simp
  | succ k ih =>
    rw [List.range_succ, List.map_append, List.flatten_append, List.length_append, Nat.add_mul]
    have := List.length_filter_le (fun p => gap w p == k) ps
    simp at this ⊢
    simp at ih
    omega
theorem pairs_ok (w : List Nat) (L : Nat → Nat → Option Int) (hw : WOK w) : run F_pairs_of [.tup ((rows w).map dN), .lst ((tab w.sum L).map dOs)] = .ok (.tup ((pairs w L).map dP)) := by
  have h1 := hw.l1
  have h2 := hw.l2
  have h3 := hw.sum
  have hpos : 0 < w.sum := by
    have a := S_lt hw.pos (i := 0) (j := w.length) (by omega) (Nat.le_refl _)
    rw [S_all (Nat.le_refl _)] at a
    omega
  have hlast : rowOf w (w.sum - 1) = w.length - 1 := by
    have a := S_lt hw.pos (i := w.length - 1) (j := w.length) (by omega) (Nat.le_refl _)
    rw [S_all (Nat.le_refl _)] at a
    refine rowOf_eq (by omega) (by omega) ?_
    rw [show w.length - 1 + 1 = w.length by omega, S_all (Nat.le_refl _)]
    omega
  have el : getA (rows w) (-1) = w.length - 1 := by
    rw [getA_last (by rw [rows_len]; exact hpos), rows_at]
    simp only [rows_len]
    exact hlast
  unfold F_pairs_of
  refine RnE (by rfl) ?_
  walk_at "mp"
  have hr := rows_len (w := w)
  rw [el]
  refine ⟨⟨by omega, by omega⟩, by omega, ?_⟩
  rw [rngL_map]
  refine W_lcGo (h := fun _ => D.lst []) (fun x _ => lcF_eq (by unfold F_pairs_of_e1; walk_at "mp")) ?_
  have e0 : (List.range (((w.length - 1 : Nat) : Int) + 1 - 0).toNat).map (fun _ => D.lst []) = (groups w []).map fun l => .lst (l.map dP) := by
    rw [show (((w.length - 1 : Nat) : Int) + 1 - 0).toNat = w.length by omega]
    simp [groups]
  rw [e0]
  walk_at "mp"
  rw [groups_len, rows_len]
  refine ⟨by simp only [LIM]; omega, by omega, ?_⟩
  refine WO_forRng (fun k e => ∃ x y z u v : D, e = [.tup ((rows w).map dN), .lst ((tab w.sum L).map dOs), .lst ((groups w (met w.sum L k)).map fun l => .lst (l.map dP)), x, y, z, u, v]) ⟨_, _, _, _, _, rfl⟩ ?_ ?_
  · rintro k hk _ ⟨x, y, z, u, v, rfl⟩
    unfold F_pairs_of_b3
    have hk' : k < w.sum := by omega
    walk_at "mp"
    rw [rows_len]
    refine ⟨by omega, ?_⟩
    refine WO_forRng (fun j e => ∃ y : D, e = [.tup ((rows w).map dN), .lst ((tab w.sum L).map dOs), .lst ((groups w (met w.sum L k ++ metR w.sum L k j)).map fun l => .lst (l.map dP)), .int (0 + (k : Int)), y, z, u, v]) ⟨y, by
      simp [metR]⟩ ?_ ?_
    · rintro j hj _ ⟨y, rfl⟩
      unfold F_pairs_of_b2
      have hg : k + 1 + j < w.sum := by omega
      have a1 : getA (tab w.sum L) (0 + (k : Int)) = (List.range w.sum).map (L k) := by rw [getA_nat k (by omega) (by rw [tab_len]; exact hk'), tab_at]
      have a2 : getA ((List.range w.sum).map (L k)) (0 + (k : Int) + 1 + (j : Int)) = L k (k + 1 + j) := by rw [getA_nat (k + 1 + j) (by omega) (by simpa using hg)]; simp
      have b1 : getA (rows w) (0 + (k : Int)) = rowOf w k := by rw [getA_nat k (by omega) (by rw [rows_len]; exact hk'), rows_at]
      have b2 : getA (rows w) (0 + (k : Int) + 1 + (j : Int)) = rowOf w (k + 1 + j) := by rw [getA_nat (k + 1 + j) (by omega) (by rw [rows_len]; exact hg), rows_at]
      have hm := rowOf_mono (w := w) (p := k) (q := k + 1 + j) (by omega) hg
      have hgap : gap w (k, k + 1 + j) = rowOf w (k + 1 + j) - rowOf w k := rfl
      generalize hps : met w.sum L k ++ metR w.sum L k j = ps
      have hl : ps.length < 16000000 := by
        rw [← hps, List.length_append]
        have c1 := met_len (n := w.sum) (L := L) (k := k)
        have c2 := metR_len (n := w.sum) (L := L) (s := k) (m := j)
        have c3 : k * w.sum ≤ 40 * 40 := Nat.mul_le_mul (by omega) (by omega)
        omega
      have hlt : gap w (k, k + 1 + j) < (groups w ps).length := by rw [groups_len]; exact gap_lt hg
      have hl2 : (groups w ps)[gap w (k, k + 1 + j)].length < 16777216 := by
        rw [groups_at]
        have := List.length_filter_le (fun p => gap w p == gap w (k, k + 1 + j)) ps
        omega
      have m := muAt_app (f := dP) (g := dP) (T := groups w ps) (i := (rowOf w (k + 1 + j) : Int) - (rowOf w k : Int)) (x := (k, k + 1 + j)) _ (by rw [hgap]; omega) hlt hl2
      have l := locD_at (g := dP) (T := groups w ps) (i := (rowOf w (k + 1 + j) : Int) - (rowOf w k : Int)) _ (by rw [hgap]; omega) hlt
      rw [metR_succ, ← List.append_assoc, hps]
      walk_at "mp"
      rw [a1, a2, tab_len]
      refine ⟨inB_nat (by omega) (by omega), inB_nat (by omega) (by simp; omega), ?_⟩
      cases hL : L k (k + 1 + j) with
      | none =>
        walk_at "mp"
        exact ⟨.int (0 + (k : Int) + 1 + (j : Int)), by simp⟩
      | some c =>
        walk_at "mp"
        rw [b1, b2, rows_len, l]
        refine ⟨inB_nat (by omega) (by omega), inB_nat (by omega) (by omega), _, rfl, ?_⟩
        walk_at "mp"
        have hc : (D.tup [.int (0 + (k : Int)), .int (0 + (k : Int) + 1 + (j : Int))]) = dP (k, k + 1 + j) := by simp
        rw [hc]
        refine W.by m ⟨.int (0 + (k : Int) + 1 + (j : Int)), ?_⟩
        rw [groups_at, show (if (some c).isSome = true then [(k, k + 1 + j)] else []) = [(k, k + 1 + j)] from rfl, groups_app]
        rfl
    · rintro _ ⟨y, rfl⟩
      refine ⟨.int (0 + (k : Int)), y, z, u, v, ?_⟩
      rw [met_succ, show ((w.sum : Int) - (0 + (k : Int) + 1)).toNat = w.sum - (k + 1) by omega]
  · rintro _ ⟨x, y, z, u, v, rfl⟩
    walk_at "mp"
    rw [show ((w.sum : Int) - 0).toNat = w.sum by omega]
    refine WO_forMap (fun k e => ∃ u : D, e = [.tup ((rows w).map dN), .lst ((tab w.sum L).map dOs), .lst ((groups w (met w.sum L w.sum)).map fun l => .lst (l.map dP)), x, y, .lst ((((groups w (met w.sum L w.sum)).take k).flatten).map dP), u, v]) ⟨_, rfl⟩ ?_ ?_
    · rintro k hk _ ⟨u, rfl⟩
      unfold F_pairs_of_b4
      walk_at "mp"
      refine ⟨?_, .lst (((groups w (met w.sum L w.sum))[k]).map dP), ?_⟩
      · have c1 := met_len (n := w.sum) (L := L) (k := w.sum)
        have c3 : w.sum * w.sum ≤ 40 * 40 := Nat.mul_le_mul (by omega) (by omega)
        have c4 := flat_len (a := Nat) (w := w) (ps := met w.sum L w.sum)
        have c5 : w.length * (met w.sum L w.sum).length ≤ 12 * 1600 := Nat.mul_le_mul (by omega) (by omega)
        have c6 : ((groups w (met w.sum L w.sum)).take (k + 1)).flatten.length ≤ (groups w (met w.sum L w.sum)).flatten.length := by
          conv => rhs; rw [← List.take_append_drop (k + 1) (groups w (met w.sum L w.sum))]
          rw [List.flatten_append, List.length_append]; omega
        rw [List.take_succ_eq_append_getElem hk, List.flatten_append, List.length_append] at c6
        simp only [List.flatten_cons, List.flatten_nil, List.append_nil] at c6
        simp only [LIM]; omega
      · rw [List.take_succ_eq_append_getElem hk, List.flatten_append, List.map_append]
        simp
    · rintro _ ⟨u, rfl⟩
      rw [List.take_of_length_le (Nat.le_refl _)]
      walk_at "mp"
      rfl

/-! ### sorted -/
theorem insB_perm {a : Type} {le : a → a → Bool} {x : a} {l : List a} : (insB le x l).Perm (x :: l) := by
  induction l with
  | nil => exact List.Perm.refl _
  | cons y l ih =>
    unfold insB
    split
    · exact List.Perm.refl _
    · exact (List.Perm.cons y ih).trans (List.Perm.swap x y l)
theorem isort_perm {a : Type} {le : a → a → Bool} {l : List a} : (isort le l).Perm l := by
  induction l with
  | nil => exact List.Perm.refl _
  | cons x l ih => exact insB_perm.trans (List.Perm.cons x ih)
theorem insB_sorted {a : Type} {le : a → a → Bool} (tot : ∀ x y, le x y = true ∨ le y x = true) (tr : ∀ x y z, le x y = true → le y z = true → le x z = true) {x : a} {l : List a} (h : l.Pairwise fun x y => le x y = true) : (insB le x l).Pairwise fun x y => le x y = true := by
  induction l with
  | nil => exact List.pairwise_singleton _ _
  | cons y l ih =>
    rw [List.pairwise_cons] at h
    unfold insB
    split
    · rename_i q
      rw [List.pairwise_cons]
      refine ⟨fun z hz => ?_, List.pairwise_cons.mpr h⟩
      rcases List.mem_cons.mp hz with rfl | hz
      · exact q
      · exact tr _ _ _ q (h.1 z hz)
    · rename_i q
      have q' : le y x = true := (tot x y).resolve_left q
      rw [List.pairwise_cons]
      refine ⟨fun z hz => ?_, ih h.2⟩
      rcases List.mem_cons.mp (insB_perm.mem_iff.mp hz) with rfl | hz
      · exact q'
      · exact h.1 z hz
theorem isort_sorted {a : Type} {le : a → a → Bool} (tot : ∀ x y, le x y = true ∨ le y x = true) (tr : ∀ x y z, le x y = true → le y z = true → le x z = true) {l : List a} : (isort le l).Pairwise fun x y => le x y = true := by
  induction l with
  | nil => exact List.Pairwise.nil
  | cons x l ih => exact insB_sorted tot tr ih
theorem leL_tot : ∀ x y : List Int, leL x y = true ∨ leL y x = true
  | [], _ => .inl rfl
  | _ :: _, [] => .inr rfl
  | x :: xs, y :: ys => by
    unfold leL
    by_cases h : x = y
    · subst h; simpa using leL_tot xs ys
    · rw [if_neg h, if_neg (fun e => h e.symm)]
      simp only [decide_eq_true_eq]; omega
theorem leL_tr : ∀ x y z : List Int, leL x y = true → leL y z = true → leL x z = true
  | [], _, _, _, _ => rfl
  | _ :: _, [], _, h, _ => by cases h
  | _ :: _, _ :: _, [], _, h => by cases h
  | x :: xs, y :: ys, z :: zs, h1, h2 => by
    unfold leL at h1 h2 ⊢
    by_cases e1 : x = y
    · subst e1
      rw [if_pos rfl] at h1
      by_cases e2 : x = z
      · subst e2
        rw [if_pos rfl] at h2 ⊢
        exact leL_tr _ _ _ h1 h2
      · rw [if_neg e2] at h2 ⊢; exact h2
    · rw [if_neg e1] at h1
      simp only [decide_eq_true_eq] at h1
      by_cases e2 : y = z
      · subst e2
        rw [if_neg (by omega)]
        simpa using h1
      · rw [if_neg e2] at h2
        simp only [decide_eq_true_eq] at h2
        rw [if_neg (by omega)]
        simp only [decide_eq_true_eq]; omega
theorem leL_anti : ∀ x y : List Int, leL x y = true → leL y x = true → x = y
  | [], [], _, _ => rfl
  | [], _ :: _, _, h => by cases h
  | _ :: _, [], h, _ => by cases h
  | x :: xs, y :: ys, h1, h2 => by
    unfold leL at h1 h2
    by_cases e : x = y
    · subst e
      rw [if_pos rfl] at h1 h2
      rw [leL_anti _ _ h1 h2]
    · rw [if_neg e] at h1
      rw [if_neg (fun z => e z.symm)] at h2
      simp only [decide_eq_true_eq] at h1 h2
      omega
abbrev tI (r : Rd) : List Int := [(r.1 : Int), (r.2.1 : Int), r.2.2]
theorem ahd_le {r q : Rd} (h : Ahd r q) : leL (tI r) (tI q) = true := by
  obtain ⟨h1, h2, h3⟩ := h
  unfold leL
  by_cases e : (r.1 : Int) = q.1
  · rw [if_pos e]
    unfold leL
    rw [if_neg (by omega)]
    simp only [decide_eq_true_eq]; omega
  · rw [if_neg e]
    simp only [decide_eq_true_eq]; omega
theorem isort_rs {ls rs : List Rd} (hp : ls.Perm rs) (ho : rs.Pairwise Ahd) : isort leL (ls.map tI) = rs.map tI := by
  refine List.Perm.eq_of_pairwise (le := fun x y => leL x y = true) (fun a b _ _ => leL_anti a b) (isort_sorted leL_tot leL_tr) ?_ (isort_perm.trans (hp.map _))
  rw [List.pairwise_map]
  exact ho.imp fun h => ahd_le h
theorem toTs_dR {ls : List Rd} : toTs (ls.map dR) = some (ls.map tI) := by
  induction ls with
  | nil => rfl
  | cons r ls ih => simp only [List.map_cons, toTs, ih, toT, toIs, toI]
theorem sort_ok {ls rs : List Rd} (hp : ls.Perm rs) (ho : rs.Pairwise Ahd) : sortD (ls.map dR) = .ok (.lst (rs.map dR)) := by
  have e : (sortD (ls.map dR)) = .ok (.lst ((isort leL (ls.map tI)).map fun t => .tup (t.map .int))) := by
    unfold sortD
    rw [toTs_dR]
    cases ls with
    | nil => rfl
    | cons r ls => rfl
  rw [e, isort_rs hp ho, List.map_map]
  rfl
/-! ### the dict of the prices -/
theorem dputK_new {ks : List (Nat × Nat)} {k : Nat × Nat} (h : k ∉ ks) : dputK (ks.map dP) (dP k) = (ks ++ [k]).map dP := by
  induction ks with
  | nil => rfl
  | cons q ks ih =>
    simp only [List.mem_cons, not_or] at h
    rw [List.map_cons, dputK, eqD_dP, decide_eq_false (fun e => h.1 e.symm), if_neg (by simp), ih h.2]
    rfl
theorem dputV_new {a : Type} {f : a → D} {ks : List (Nat × Nat)} {vs : List a} {k : Nat × Nat} {v : a} (h : k ∉ ks) (hl : ks.length = vs.length) : dputV (ks.map dP) (vs.map f) (dP k) (f v) = (vs ++ [v]).map f := by
  induction ks generalizing vs with
  | nil => cases vs with
    | nil => rfl
    | cons _ _ => simp at hl
  | cons q ks ih =>
    cases vs with
    | nil => simp at hl
    | cons w vs =>
      simp only [List.mem_cons, not_or] at h
      rw [List.map_cons, List.map_cons, dputV, eqD_dP, decide_eq_false (fun e => h.1 e.symm), if_neg (by simp), ih h.2 (by simpa using hl)]
      rfl
theorem dcGo_ok {b c : Type} {h : b → D} {g : c → D} {f : D → R (D × D)} {l : List b} (key : b → Nat × Nat) (val : b → c) (hf : ∀ x ∈ l, f (h x) = .ok (dP (key x), g (val x))) (hd : (l.map key).Nodup) (hl : l.length ≤ 1000000) :
    dcGo true f (l.map h) [] [] = .ok (.dct true ((l.map key).map dP) ((l.map val).map g)) := by
  suffices z : ∀ (post pre : List b), pre ++ post = l → dcGo true f (post.map h) ((pre.map key).map dP) ((pre.map val).map g) = .ok (.dct true ((l.map key).map dP) ((l.map val).map g)) from z l [] rfl
  intro post
  induction post with
  | nil => intro pre e; rw [List.append_nil] at e; subst e; rfl
  | cons x post ih =>
    intro pre e
    have hn : key x ∉ pre.map key := by
      rw [← e, List.map_append, List.map_cons] at hd
      have := (List.nodup_append.mp hd).2.2
      intro hm
      exact this _ hm _ List.mem_cons_self rfl
    have hlt : pre.length < 16777216 := by
      have := congrArg List.length e
      simp at this; omega
    rw [List.map_cons, dcGo, hf x (by rw [← e]; simp), R.bind_ok]
    simp only
    rw [dputK_new hn, dputV_new hn (by simp), ← List.map_singleton (f := key), ← List.map_singleton (f := val), ← List.map_append, ← List.map_append]
    rw [if_pos (by simp [keyD, keyOk, LIM]; omega)]
    exact ih (pre ++ [x]) (by simp [e])
end MpL

/-! PlNet4: Net -/
namespace MpL
open Mp MpP
local macro_rules | `(tactic| walk_at "mp") => `(tactic| try simp -implicitDefEqProofs -dsimp only [List.take_succ_cons, List.take_zero, List.drop_succ_cons, List.drop_zero, Mp.WO_nil, Mp.wn_nx, Mp.wn_rt, Mp.wn_br, Mp.wn_ct, Mp.wn_ex, Mp.wl_nx, Mp.wl_rt, Mp.wl_br, Mp.wl_ct, Mp.wl_ex, Mp.WO_cons, Mp.WO_set, Mp.WO_sets, Mp.WO_app, Mp.WO_put, Mp.WO_exp, Mp.WO_ifs, Mp.WO_ret, Mp.WO_retN, Mp.WO_pas, Mp.WO_brk, Mp.WO_cnt, Mp.WO_wall, Mp.WO_rse, Mp.WO_apop, Mp.W_xat, Mp.W_xis, Mp.W_rvs, Mp.W_xatI, Mp.W_xisI, Mp.W_rvsL, Mp.putG_nil, Mp.putOk_lst, Mp.putOk_dF, Mp.putOk_tup, Mp.fmOk, and_false, false_and, Mp.WO_for, Mp.WO_forF1, Mp.WO_forF2, Mp.WO_forF3, Mp.WO_whl, Mp.W_nm, Mp.W_nma, Mp.W_alj, Mp.WO_ali, Mp.W_aljD, Mp.W_nmaD, Mp.W_cst, Mp.W_bin, Mp.W_neg, Mp.W_nt, Mp.W_bop, Mp.W_evb1, Mp.W_evb, Mp.W_cmp, Mp.W_isn, Mp.W_ife, Mp.W_chn, Mp.W_tupE, Mp.W_lstE, Mp.W_dctE, Mp.W_ix, Mp.W_sl, Mp.W_att, Mp.W_call, Mp.W_slf, Mp.W_meth, Mp.W_mk, Mp.W_blt, Mp.W_isi, Mp.W_bm, Mp.W_rng, Mp.W_zipE, Mp.W_enumE, Mp.W_revE, Mp.W_lc, Mp.W_dc, Mp.W_evs0, Mp.W_evs, Mp.W_evc0, Mp.W_evc, Mp.W_ok, Mp.W_exc, Mp.W_bad, Mp.W_bind, Mp.W_nox, Mp.W_of, Mp.W_need, Mp.W_gS, Mp.W_g_un, Mp.W_g_non, Mp.W_g_bl, Mp.W_g_int, Mp.W_g_str, Mp.W_g_tup, Mp.W_g_lst, Mp.W_g_dct, Mp.W_g_ins, Mp.W_g_scr, List.getElem?_cons_zero, List.getElem?_cons_succ, List.set_cons_zero, List.set_cons_succ, List.cons_append, List.nil_append, List.replicate_succ, List.replicate_zero, Nat.reduceAdd, Nat.reduceSub, Mp.W_opAdd, Mp.W_opSub, Mp.W_opMul, Mp.W_opDiv, Mp.W_opMod, Mp.W_opPow, Mp.W_opCat, Mp.W_opCatT, Mp.W_opRep, List.length_cons, List.length_nil, Mp.W_eqRI, Mp.W_lcF1, Mp.W_lcFc, Mp.cmpD, Mp.truD, Mp.isNon, Mp.W_ixL, Mp.W_ixT, Mp.W_ixS, Mp.W_ix20, Mp.W_ix60, Mp.W_ix61, Mp.W_ix62, Mp.W_ix63, Mp.W_ix64, Mp.W_ix65, Mp.W_ix21, Mp.W_ix30, Mp.W_ix31, Mp.W_ix32, Mp.slD, Mp.toP, Mp.negD, Mp.items, Mp.W_rngD, Mp.zipD, Mp.enumD, Mp.revD, Mp.W_lenL, Mp.W_lenT, Mp.W_lenC, Mp.W_intI, Mp.W_listL, Mp.W_listT, Mp.W_tupL, Mp.W_tupT, Mp.W_min2, Mp.W_max2, Mp.W_absI, Mp.W_sortL, Mp.bmD, Mp.rcv, Mp.setTg, Mp.setAll, Mp.locD_nil, Mp.muAt_nil, Mp.W_muApp, Mp.W_muDct, Mp.W_att_cons, Mp.WO_setFc, Mp.fputF, Mp.fputV, ↓reduceIte, Nat.reduceEqDiff, Mp.W_isi_non_int, Mp.W_isi_non_bool, Mp.W_isi_non_str, Mp.W_isi_non_list, Mp.W_isi_non_tuple, Mp.W_isi_bl_int, Mp.W_isi_bl_bool, Mp.W_isi_bl_str, Mp.W_isi_bl_list, Mp.W_isi_bl_tuple, Mp.W_isi_int_int, Mp.W_isi_int_bool, Mp.W_isi_int_str, Mp.W_isi_int_list, Mp.W_isi_int_tuple, Mp.W_isi_str_int, Mp.W_isi_str_bool, Mp.W_isi_str_str, Mp.W_isi_str_list, Mp.W_isi_str_tuple, Mp.W_isi_tup_int, Mp.W_isi_tup_bool, Mp.W_isi_tup_str, Mp.W_isi_tup_list, Mp.W_isi_tup_tuple, Mp.W_isi_lst_int, Mp.W_isi_lst_bool, Mp.W_isi_lst_str, Mp.W_isi_lst_list, Mp.W_isi_lst_tuple, Mp.W_isi_ins_int, Mp.W_isi_ins_bool, Mp.W_isi_ins_str, Mp.W_isi_ins_list, Mp.W_isi_ins_tuple, Mp.isCls_ins, Mp.ite_bl, Mp.ite_bf, Mp.ite_pp, List.length_map, decide_eq_true_eq, beq_iff_eq, beq_eq_false_iff_ne, decide_eq_false_iff_not, Option.some.injEq, Mp.D.lst.injEq, exists_eq_left', exists_eq_left, Bool.not_eq_true', Bool.not_eq_false', beq_self_eq_true, Bool.not_true, Bool.not_false, reduceCtorEq, false_implies, not_true_eq_false, not_false_eq_true, implies_true, true_and, and_true, true_implies, forall_const, if_true, if_false])
local macro_rules | `(tactic| walk_at "br") => `(tactic| (repeat' (first | apply And.intro | intro _)) <;> (first | omega | exact Mp.inB_nat (by omega) (by omega) | skip))
def netF : List Nat := [3, 4, 5, 6, 7, 8, 9, 10, 11, 12]
abbrev es (r : Rd) : Nat × Nat := (r.2.1, r.1)
abbrev prc (r : Rd) : Int := r.2.2
def netV (w : List Nat) (rs : List Rd) : List D := [.tup (w.map dN), .tup (rs.map dR), .tup ((starts w).map dN), .int (w.sum : Nat), .tup ((rows w).map dN),
  .tup ((links w.sum (rs.map se)).map dNt), .tup ((links w.sum (rs.map es)).map dNt), .dct true ((rs.map se).map dP) ((rs.map prc).map .int), .lst ((tab w.sum (lp rs)).map dOs), .tup ((pairs w (lp rs)).map dP)]
/-- a net -/
def netD (w : List Nat) (rs : List Rd) : D := .ins 0 netF (netV w rs)
section
variable {w : List Nat} {rs : List Rd} {env : List D} {Q : D → Prop} {E1 : D → Prop}
theorem W_g_net : W (getE (netD w rs :: env) 0) Q E1 = Q (netD w rs) := rfl
theorem isCls_net : isCls 0 (netD w rs) = true := rfl
theorem W_net3 : W (attD (netD w rs) 3) Q E1 = Q (.tup (w.map dN)) := rfl
theorem W_net4 : W (attD (netD w rs) 4) Q E1 = Q (.tup (rs.map dR)) := rfl
theorem W_net5 : W (attD (netD w rs) 5) Q E1 = Q (.tup ((starts w).map dN)) := rfl
theorem W_net6 : W (attD (netD w rs) 6) Q E1 = Q (.int (w.sum : Nat)) := rfl
theorem W_net7 : W (attD (netD w rs) 7) Q E1 = Q (.tup ((rows w).map dN)) := rfl
theorem W_net8 : W (attD (netD w rs) 8) Q E1 = Q (.tup ((links w.sum (rs.map se)).map dNt)) := rfl
theorem W_net9 : W (attD (netD w rs) 9) Q E1 = Q (.tup ((links w.sum (rs.map es)).map dNt)) := rfl
theorem W_net10 : W (attD (netD w rs) 10) Q E1 = Q (.dct true ((rs.map se).map dP) ((rs.map prc).map .int)) := rfl
theorem W_net11 : W (attD (netD w rs) 11) Q E1 = Q (.lst ((tab w.sum (lp rs)).map dOs)) := rfl
theorem W_net12 : W (attD (netD w rs) 12) Q E1 = Q (.tup ((pairs w (lp rs)).map dP)) := rfl
end
theorem RnI {np ns rt : Nat} {md : List Nat} {body : List Mp.S} {args : List D} {x : D} (hl : args.length = np)
    (h : WO (execs body (fun _ => .bad) (args ++ List.replicate (ns - np) .un)) ⟨fun env => W (getE env 0) (fun d => x = d) (fun _ => False), fun _ => False, fun _ => False, fun _ => False, fun _ => False⟩) :
    run (.mk np ns md rt 0 true body) args = .ok x := by
  obtain ⟨d, e, rfl⟩ := W.get ((W_runI (Q := fun d => x = d) (E' := fun _ => False) hl).mpr h)
  exact e
theorem minI_ge {m : Int} : ∀ {l : List Int} {a : Int}, m ≤ a → (∀ x ∈ l, m ≤ x) → m ≤ minI a l
  | [], a, h, _ => h
  | x :: l, a, h, hl => by
    unfold minI
    refine minI_ge ?_ (fun y hy => hl y (List.mem_cons_of_mem _ hy))
    have := hl x List.mem_cons_self
    split <;> omega
theorem toIs_dN {l : List Nat} : toIs (l.map dN) = some (l.map fun n : Nat => (n : Int)) := by
  induction l with
  | nil => rfl
  | cons n l ih => simp only [List.map_cons, toIs, ih, toI]
theorem W_min {l : List Nat} {Q : D → Prop} {E1 : D → Prop} (h0 : 1 ≤ l.length) (h : ∀ x ∈ l, 1 ≤ x) (q : ∀ m : Int, 1 ≤ m → Q (.int m)) : W (bltD .min [.tup (l.map dN)]) Q E1 := by
  cases l with
  | nil => simp at h0
  | cons n l =>
    have e : bltD .min [.tup ((n :: l).map dN)] = .ok (.int (minI n (l.map fun n : Nat => (n : Int)))) := by
      show (match toIs ((n :: l).map dN) with
        | some (n :: ns) => R.ok (D.int (minI n ns))
        | _ => R.bad) = _
      rw [toIs_dN]
      rfl
    rw [e, W_ok]
    refine q _ (minI_ge (by have := h n List.mem_cons_self; omega) ?_)
    intro x hx
    obtain ⟨y, hy, rfl⟩ := List.mem_map.mp hx
    have := h y (List.mem_cons_of_mem _ hy)
    omega
theorem rsOK_of {w : List Nat} {rs ls : List Rd} (h : NOK w rs) (hp : ls.Perm rs) : RsOK w ls := by
  have sym : ∀ {p : Rd → Rd → Prop}, (∀ a b, p a b → p b a) → (∀ a b, Ahd a b → p a b) → ls.Pairwise p := fun hs ha =>
    hp.symm.pairwise (h.ord.imp fun z => ha _ _ z) (fun z => hs _ _ z)
  refine ⟨fun r hr => h.rd r (hp.mem_iff.mp hr), sym (fun a b h e => h e.symm) ?_, ?_⟩
  · intro a b ⟨h1, h2, h3⟩ e
    have := congrArg Prod.fst e
    have := congrArg Prod.snd e
    simp only at *
    omega
  · have : ls.Pairwise fun a b => ¬ Crs a b ∧ ¬ Crs b a := sym (fun a b h => ⟨h.2, h.1⟩) (fun a b ⟨h1, h2, h3⟩ => by
      unfold Crs
      refine ⟨?_, ?_⟩ <;> split <;> omega)
    exact this.imp fun h => h.1
theorem se_nodup {w : List Nat} {rs : List Rd} (h : NOK w rs) : (rs.map se).Nodup := by
  rw [List.Nodup, List.pairwise_map]
  exact (rsOK_of h (List.Perm.refl _)).dbl
theorem lcF_map {elt : E} {i : Nat} {s : Sf} {env : List D} {a : Type} {g : a → D} {h : a → D} (hh : ∀ x : a, W (ev elt s (env.set i (g x))) (fun d => h x = d) (fun _ => False)) (x : a) : lcF elt [i] [] s env (g x) = .ok (some (h x)) := lcF_eq (hh x)
theorem dcF_eq {k v : E} {i : Nat} {s : Sf} {env : List D} {x y z : D} (h1 : W (ev k s (env.set i x)) (fun d => y = d) (fun _ => False)) (h2 : W (ev v s (env.set i x)) (fun d => z = d) (fun _ => False)) : dcF k v [i] s env x = .ok (y, z) := by
  have e1 := W_evE h1
  have e2 := W_evE h2
  simp only [dcF, setTg, e1, e2, R.bind_ok]
theorem sort_okT {ls rs : List Rd} (hp : ls.Perm rs) (ho : rs.Pairwise Ahd) : bltD .sorted [.tup (ls.map dR)] = .ok (.lst (rs.map dR)) := by
  show (match toTs (ls.map dR) with
    | some ts => R.ok (D.lst ((isort leL ts).map fun t : List Int => D.tup (t.map .int)))
    | none => .bad) = _
  rw [toTs_dR]
  simp only
  rw [isort_rs hp ho, List.map_map]
  rfl
/-- a net is made from its widths and its roads in any order -/
theorem net_ok (w : List Nat) (rs ls : List Rd) (t u : Bool) (h : NOK w rs) (hp : ls.Perm rs) (hl : ls.length ≤ 1000) : run F_Net___init__ [.ins 0 [] [], sq t (w.map dN), sq u (ls.map dR)] = .ok (netD w rs) := by
  have hw := h.wok
  have h1 := hw.l1
  have h2 := hw.l2
  have h3 := hw.sum
  have hlen := hp.length_eq
  have hin : ∀ r ∈ rs, r.1 < w.sum ∧ r.2.1 < w.sum := fun r hr => let z := (h.rd r hr).rows; ⟨z.1, z.2.1⟩
  unfold F_Net___init__
  refine RnI (by rfl) ?_
  refine WO_split 2 (fun e => e = [.ins 0 [] [], sq t (w.map dN), sq u (ls.map dR), .tup (w.map dN), .tup (ls.map dR), .un, .un]) ?_ ?_
  · have e1 : ∀ env : List D, ∀ x ∈ ls, lcF F_Net___init___e1 [6] [] (fun _ => .bad) ([.ins 0 [] [], sq t (w.map dN), sq u (ls.map dR), .tup (w.map dN), .un, .un, .un]) (dR x) = .ok (some (dR x)) := fun env x _ => lcF_eq (by unfold F_Net___init___e1; walk_at "mp")
    cases t <;> cases u <;> simp only [sq, if_true, if_false, Bool.false_eq_true] at e1 ⊢ <;> walk_at "mp" <;> refine W_lcGo (h := dR) (e1 []) ?_ <;> walk_at "mp" <;> exact (by simp only [LIM]; omega)
  rintro _ rfl
  generalize sq t (w.map dN) = A
  generalize sq u (ls.map dR) = B
  refine WO_split 3 (fun e => e = [.ins 0 [] [], A, B, .tup (w.map dN), .tup (ls.map dR), .tup ((starts w).map dN), .un]) ?_ ?_
  · have hs := starts_ok w true (by omega)
    simp only [sq, if_true] at hs
    have hc := check_ok w ls hw (rsOK_of h hp) (by omega)
    walk_at "mp"
    refine ⟨fun _ => W_min h1 hw.pos fun m hm => ?_, fun z => by omega⟩
    walk_at "mp"
    refine ⟨fun z => by omega, fun _ => W.by hs ?_⟩
    walk_at "mp"
    exact W.by hc rfl
  rintro _ rfl
  refine WO_split 5 (fun e => e = [.ins 0 [3, 4, 5, 6, 7] [.tup (w.map dN), .tup (rs.map dR), .tup ((starts w).map dN), .int (w.sum : Nat), .tup ((rows w).map dN)], A, B, .tup (w.map dN), .tup (ls.map dR), .tup ((starts w).map dN), .un]) ?_ ?_
  · walk_at "mp"
    refine ⟨by decide, W.by (sort_okT hp h.ord) ?_⟩
    walk_at "mp"
    have hlast : getA (starts w) (-1) = w.sum := by
      rw [getA_last (by rw [starts_len]; omega), starts_at, starts_len]
      exact S_all (by omega)
    have hro := rows_ok w (by omega) (by omega)
    have hsl := starts_len (w := w)
    rw [hlast]
    refine ⟨by decide, by decide, ⟨by omega, by omega⟩, by decide, W.by hro ?_⟩
    walk_at "mp"
    decide
  rintro _ rfl
  have hL1 : run F_links_of [.int (w.sum : Nat), .lst ((rs.map se).map dP)] = _ := links_ok w.sum (rs.map se) (by omega) (by
    intro s hs
    obtain ⟨r, hr, rfl⟩ := List.mem_map.mp hs
    exact (hin r hr).1) (by simp; omega)
  have hL2 : run F_links_of [.int (w.sum : Nat), .lst ((rs.map es).map dP)] = _ := links_ok w.sum (rs.map es) (by omega) (by
    intro s hs
    obtain ⟨r, hr, rfl⟩ := List.mem_map.mp hs
    exact (hin r hr).2) (by simp; omega)
  have hLe := least_ok w.sum rs (by omega) hin
  have hPa := pairs_ok w (lp rs) hw
  have m1 : rs.map (fun r => dP (se r)) = (rs.map se).map dP := by rw [List.map_map]; rfl
  have m2 : rs.map (fun r => dP (es r)) = (rs.map es).map dP := by rw [List.map_map]; rfl
  have hlim : rs.length ≤ LIM := by simp only [LIM]; omega
  walk_at "mp"
  refine W_lcGo (h := fun r => dP (se r)) (fun x _ => lcF_eq (by unfold F_Net___init___e2; walk_at "mp")) ?_
  rw [m1]
  walk_at "mp"
  refine ⟨hlim, W.by hL1 ?_⟩
  walk_at "mp"
  refine ⟨by decide, W_lcGo (h := fun r => dP (es r)) (fun x _ => lcF_eq (by unfold F_Net___init___e3; walk_at "mp")) ?_⟩
  rw [m2]
  walk_at "mp"
  refine ⟨hlim, W.by hL2 ?_⟩
  walk_at "mp"
  refine ⟨by decide, W.by (dcGo_ok (g := D.int) (f := dcF _ _ _ _ _) se prc (fun x _ => dcF_eq (by unfold F_Net___init___e4; walk_at "mp") (by unfold F_Net___init___e5; walk_at "mp")) (se_nodup h) (by omega)) ?_⟩
  walk_at "mp"
  refine ⟨by decide, W.by hLe ?_⟩
  walk_at "mp"
  refine ⟨by decide, W.by hPa ?_⟩
  walk_at "mp"
  refine ⟨by decide, ?_⟩
  rfl
end MpL

/-! PlSame: _law_same -/
namespace MpL
open Mp MpP
local macro_rules | `(tactic| walk_at "mp") => `(tactic| try simp -implicitDefEqProofs -dsimp only [List.take_succ_cons, List.take_zero, List.drop_succ_cons, List.drop_zero, Mp.WO_nil, Mp.wn_nx, Mp.wn_rt, Mp.wn_br, Mp.wn_ct, Mp.wn_ex, Mp.wl_nx, Mp.wl_rt, Mp.wl_br, Mp.wl_ct, Mp.wl_ex, Mp.WO_cons, Mp.WO_set, Mp.WO_sets, Mp.WO_app, Mp.WO_put, Mp.WO_exp, Mp.WO_ifs, Mp.WO_ret, Mp.WO_retN, Mp.WO_pas, Mp.WO_brk, Mp.WO_cnt, Mp.WO_wall, Mp.WO_rse, Mp.WO_apop, Mp.W_xat, Mp.W_xis, Mp.W_rvs, Mp.W_xatI, Mp.W_xisI, Mp.W_rvsL, Mp.putG_nil, Mp.putOk_lst, Mp.putOk_dF, Mp.putOk_tup, Mp.fmOk, and_false, false_and, Mp.WO_for, Mp.WO_forF1, Mp.WO_forF2, Mp.WO_forF3, Mp.WO_whl, Mp.W_nm, Mp.W_nma, Mp.W_alj, Mp.WO_ali, Mp.W_aljD, Mp.W_nmaD, Mp.W_cst, Mp.W_bin, Mp.W_neg, Mp.W_nt, Mp.W_bop, Mp.W_evb1, Mp.W_evb, Mp.W_cmp, Mp.W_isn, Mp.W_ife, Mp.W_chn, Mp.W_tupE, Mp.W_lstE, Mp.W_dctE, Mp.W_ix, Mp.W_sl, Mp.W_att, Mp.W_call, Mp.W_slf, Mp.W_meth, Mp.W_mk, Mp.W_blt, Mp.W_isi, Mp.W_bm, Mp.W_rng, Mp.W_zipE, Mp.W_enumE, Mp.W_revE, Mp.W_lc, Mp.W_dc, Mp.W_evs0, Mp.W_evs, Mp.W_evc0, Mp.W_evc, Mp.W_ok, Mp.W_exc, Mp.W_bad, Mp.W_bind, Mp.W_nox, Mp.W_of, Mp.W_need, Mp.W_gS, Mp.W_g_un, Mp.W_g_non, Mp.W_g_bl, Mp.W_g_int, Mp.W_g_str, Mp.W_g_tup, Mp.W_g_lst, Mp.W_g_dct, Mp.W_g_ins, Mp.W_g_scr, List.getElem?_cons_zero, List.getElem?_cons_succ, List.set_cons_zero, List.set_cons_succ, List.cons_append, List.nil_append, List.replicate_succ, List.replicate_zero, Nat.reduceAdd, Nat.reduceSub, Mp.W_opAdd, Mp.W_opSub, Mp.W_opMul, Mp.W_opDiv, Mp.W_opMod, Mp.W_opPow, Mp.W_opCat, Mp.W_opCatT, Mp.W_opRep, List.length_cons, List.length_nil, Mp.W_eqRI, Mp.W_lcF1, Mp.W_lcFc, Mp.cmpD, Mp.truD, Mp.isNon, Mp.W_ixL, Mp.W_ixT, Mp.W_ixS, Mp.W_ix20, Mp.W_ix60, Mp.W_ix61, Mp.W_ix62, Mp.W_ix63, Mp.W_ix64, Mp.W_ix65, Mp.W_ix21, Mp.W_ix30, Mp.W_ix31, Mp.W_ix32, Mp.slD, Mp.toP, Mp.negD, Mp.items, Mp.W_rngD, Mp.zipD, Mp.enumD, Mp.revD, Mp.W_lenL, Mp.W_lenT, Mp.W_lenC, Mp.W_intI, Mp.W_listL, Mp.W_listT, Mp.W_tupL, Mp.W_tupT, Mp.W_min2, Mp.W_max2, Mp.W_absI, Mp.W_sortL, Mp.bmD, Mp.rcv, Mp.setTg, Mp.setAll, Mp.locD_nil, Mp.muAt_nil, Mp.W_muApp, Mp.W_muDct, Mp.W_att_cons, Mp.WO_setFc, Mp.fputF, Mp.fputV, ↓reduceIte, Nat.reduceEqDiff, Mp.W_isi_non_int, Mp.W_isi_non_bool, Mp.W_isi_non_str, Mp.W_isi_non_list, Mp.W_isi_non_tuple, Mp.W_isi_bl_int, Mp.W_isi_bl_bool, Mp.W_isi_bl_str, Mp.W_isi_bl_list, Mp.W_isi_bl_tuple, Mp.W_isi_int_int, Mp.W_isi_int_bool, Mp.W_isi_int_str, Mp.W_isi_int_list, Mp.W_isi_int_tuple, Mp.W_isi_str_int, Mp.W_isi_str_bool, Mp.W_isi_str_str, Mp.W_isi_str_list, Mp.W_isi_str_tuple, Mp.W_isi_tup_int, Mp.W_isi_tup_bool, Mp.W_isi_tup_str, Mp.W_isi_tup_list, Mp.W_isi_tup_tuple, Mp.W_isi_lst_int, Mp.W_isi_lst_bool, Mp.W_isi_lst_str, Mp.W_isi_lst_list, Mp.W_isi_lst_tuple, Mp.W_isi_ins_int, Mp.W_isi_ins_bool, Mp.W_isi_ins_str, Mp.W_isi_ins_list, Mp.W_isi_ins_tuple, Mp.isCls_ins, Mp.ite_bl, Mp.ite_bf, Mp.ite_pp, List.length_map, decide_eq_true_eq, beq_iff_eq, beq_eq_false_iff_ne, decide_eq_false_iff_not, Option.some.injEq, Mp.D.lst.injEq, exists_eq_left', exists_eq_left, Bool.not_eq_true', Bool.not_eq_false', beq_self_eq_true, Bool.not_true, Bool.not_false, reduceCtorEq, false_implies, not_true_eq_false, not_false_eq_true, implies_true, true_and, and_true, true_implies, forall_const, if_true, if_false])
local macro_rules | `(tactic| walk_at "br") => `(tactic| (repeat' (first | apply And.intro | intro _)) <;> (first | omega | exact Mp.inB_nat (by omega) (by omega) | skip))
/-- what _law_same may meet: n levels at most -/
def sm : Nat → D → Prop
  | _, .non => True
  | _, .bl _ => True
  | _, .int _ => True
  | _, .str s => strOk s = true
  | n + 1, .tup xs => xs.length ≤ 100000 ∧ ∀ x ∈ xs, sm n x
  | n + 1, .lst xs => xs.length ≤ 100000 ∧ ∀ x ∈ xs, sm n x
  | _, _ => False
/-- a def that calls itself, n deep at most -/
def recR (np ns : Nat) (body : List Mp.S) : Nat → Sf := Nat.rec (motive := fun _ => Sf) (fun args => if args.length = np then endO false (execs body (fun _ => .bad) (args ++ List.replicate (ns - np) .un)) else .bad)
      (fun _ s args => if args.length = np then endO false (execs body s (args ++ List.replicate (ns - np) .un)) else .bad)
theorem run_recR {np ns rt rc : Nat} {md : List Nat} {body : List Mp.S} : run (.mk np ns md rt rc false body) = recR np ns body rc := rfl
/-- what the calls of itself do -/
def recS (np ns : Nat) (body : List Mp.S) : Nat → Sf
  | 0 => fun _ => .bad
  | n + 1 => recR np ns body n
theorem W_recR {np ns n : Nat} {body : List Mp.S} {args : List D} {Q : D → Prop} {E1 : D → Prop} (hl : args.length = np) :
    W (recR np ns body n args) Q E1 = WO (execs body (recS np ns body n) (args ++ List.replicate (ns - np) .un)) ⟨fun _ => Q .non, Q, fun _ => False, fun _ => False, E1⟩ := by
  have : recR np ns body n args = if args.length = np then endO false (execs body (recS np ns body n) (args ++ List.replicate (ns - np) .un)) else .bad := by cases n <;> rfl
  rw [this, if_pos hl]
  show V _ _ _ = VO _ _
  cases execs body (recS np ns body n) (args ++ List.replicate (ns - np) .un) <;> rfl
def sameB : List Mp.S := [
  .ifs (.isn (.nm 1) false) [
    .ret (.isn (.nm 0) false)] [],
  .ifs (.isi (.nm 1) [.bool]) [
    .ret (.bop true [(.isi (.nm 0) [.bool]), (.cmp .eq (.nm 0) (.nm 1))])] [],
  .ifs (.isi (.nm 1) [.int]) [
    .ret (.bop true [(.isi (.nm 0) [.int]), (.nt (.isi (.nm 0) [.bool])), (.cmp .eq (.nm 0) (.nm 1))])] [],
  .ifs (.isi (.nm 1) [.str]) [
    .ret (.bop true [(.isi (.nm 0) [.str]), (.cmp .eq (.nm 0) (.nm 1))])] [],
  .ifs (.isi (.nm 1) [.list]) [
    .ifs (.bop false [(.nt (.isi (.nm 0) [.list])), (.cmp .ne (.blt .len [(.nm 0)]) (.blt .len [(.nm 1)]))]) [
      .ret (.cst (.bl false))] []] [
    .ifs (.bop false [(.nt (.isi (.nm 0) [.tuple])), (.cmp .ne (.blt .len [(.nm 0)]) (.blt .len [(.nm 1)]))]) [
      .ret (.cst (.bl false))] []],
  .for_ [2] (.rng (.cst (.int 0)) (.blt .len [(.nm 1)])) F__law_same_b1,
  .ret (.cst (.bl true))]
theorem same_is : run F__law_same = recR 2 3 sameB 8 := rfl
theorem eqD_refl : ∀ (n : Nat) (d : D), okD n d = true → eqD d d = true
  | _, .non, _ => rfl
  | _, .bl _, _ => by simp [eqD]
  | _, .int _, _ => by simp [eqD]
  | _, .str _, _ => by simp [eqD]
  | n + 1, .tup xs, h => by
    simp only [eqD]
    exact go n xs h
  | n + 1, .lst xs, h => by
    simp only [eqD]
    exact go n xs h
where
  go (n : Nat) : ∀ xs : List D, okL n xs = true → eqL xs xs = true
    | [], _ => rfl
    | x :: xs, h => by
      rw [okL, Bool.and_eq_true] at h
      rw [eqL, eqD_refl n x h.1, go n xs h.2]
      rfl
theorem W_eqS {a : List Nat} {Q : Bool → Prop} {E1 : D → Prop} (h : strOk a = true) : W (eqR (.str a) (.str a)) Q E1 = Q true := by
  have : eqR (.str a) (.str a) = .ok true := by
    unfold eqR
    rw [show okD 12 (.str a) = true from h]
    simp [eqD]
  rw [this]; rfl
theorem W_eqB {a : Bool} {Q : Bool → Prop} {E1 : D → Prop} : W (eqR (.bl a) (.bl a)) Q E1 = Q true := by
  cases a <;> rfl
def smP (P : D → Prop) : D → Prop
  | .non => True
  | .bl _ => True
  | .int _ => True
  | .str s => strOk s = true
  | .tup xs => xs.length ≤ 100000 ∧ ∀ x ∈ xs, P x
  | .lst xs => xs.length ≤ 100000 ∧ ∀ x ∈ xs, P x
  | _ => False
theorem same_body {P : D → Prop} {sf : Sf} (hsf : ∀ x, P x → sf [x, x] = .ok (.bl true)) (hun : ∀ x, P x → smP (fun _ => True) x) {d : D} (h : smP P d) :
    WO (execs sameB sf [d, d, .un]) ⟨fun _ => D.non = .bl true, fun x => x = D.bl true, fun _ => False, fun _ => False, fun _ => False⟩ := by
  have loop : ∀ (xs : List D) (c : List D → D), (∀ l, c l = .tup l) ∨ (∀ l, c l = .lst l) → xs.length ≤ 100000 → (∀ x ∈ xs, P x) →
      WO (execs [.for_ [2] (.rng (.cst (.int 0)) (.blt .len [(.nm 1)])) F__law_same_b1, .ret (.cst (.bl true))] sf [c xs, c xs, .un]) ⟨fun _ => D.non = .bl true, fun x => x = D.bl true, fun _ => False, fun _ => False, fun _ => False⟩ := by
    intro xs c hc hl hx
    have key : WO (forGo (forF [2] F__law_same_b1 sf) (rngL 0 xs.length) [c xs, c xs, .un]) (wn ⟨fun _ => D.non = .bl true, fun x => x = D.bl true, fun _ => False, fun _ => False, fun _ => False⟩ fun e => WO (execs [.ret (.cst (.bl true))] sf e) ⟨fun _ => D.non = .bl true, fun x => x = D.bl true, fun _ => False, fun _ => False, fun _ => False⟩) := by
      refine WO_forRng (fun k e => ∃ x, e = [c xs, c xs, x]) ⟨_, rfl⟩ ?_ ?_
      · rintro k hk _ ⟨y, rfl⟩
        unfold F__law_same_b1
        have hk' : k < xs.length := by omega
        have hi : atL xs (0 + (k : Int)) = some xs[k] := atL_nat k (by omega) hk'
        have e : ∀ (Q : D → Prop) (E1 : D → Prop), Q xs[k] → W (ixD (c xs) (.int (0 + (k : Int)))) Q E1 := by
          intro Q E1 q
          rcases hc with hc | hc <;> rw [hc]
          · show W (R.of (atL xs _)) _ _
            rw [hi]; exact q
          · show W (R.of (atL xs _)) _ _
            rw [hi]; exact q
        have hP := hx _ (List.getElem_mem hk')
        have r := hsf _ hP
        have g : ∀ (Q : D → Prop) (E1 : D → Prop) (env : List D), Q (c xs) → W (getE (c xs :: env) 0) Q E1 := by
          intro Q E1 env q
          rcases hc with hc | hc <;> rw [hc] at q ⊢ <;> exact q
        rw [WO_forF1, List.set_cons_succ, List.set_cons_succ, List.set_cons_zero, WO_cons, WO_ifs, W_nt, W_slf, W_evs, W_ix, W_nm]
        refine g _ _ _ ?_
        rw [W_nm, W_gS, W_gS, W_g_int]
        refine e _ _ ?_
        rw [W_evs, W_ix, W_nm, W_gS]
        refine g _ _ _ ?_
        rw [W_nm, W_gS, W_gS, W_g_int]
        refine e _ _ ?_
        rw [W_evs0]
        refine W.by r ?_
        walk_at "mp"
        exact ⟨_, rfl⟩
      · rintro _ ⟨y, rfl⟩
        walk_at "mp"
    rw [WO_cons, WO_for]
    rcases hc with hc | hc <;> rw [hc] at key ⊢ <;> walk_at "mp" <;> exact ⟨by omega, key⟩
  unfold sameB
  cases d with
  | non => walk_at "mp"
  | bl b =>
    walk_at "mp"
    rw [W_eqB]
    walk_at "mp"
  | int i => walk_at "mp"
  | str s =>
    walk_at "mp"
    rw [W_eqS h]
    walk_at "mp"
  | tup xs =>
    have l := loop xs .tup (.inl fun _ => rfl) h.1 h.2
    refine WO_split 5 (fun e => e = [.tup xs, .tup xs, .un]) ?_ ?_
    · walk_at "mp"
    · rintro _ rfl
      exact l
  | lst xs =>
    have l := loop xs .lst (.inr fun _ => rfl) h.1 h.2
    refine WO_split 5 (fun e => e = [.lst xs, .lst xs, .un]) ?_ ?_
    · walk_at "mp"
    · rintro _ rfl
      exact l
  | _ => exact (show False from h).elim
theorem sm_smP : ∀ {n : Nat} {d : D}, sm n d → smP (fun x => ∃ m, n = m + 1 ∧ sm m x) d
  | 0, .non, _ => trivial
  | 0, .bl _, _ => trivial
  | 0, .int _, _ => trivial
  | 0, .str _, h => h
  | _ + 1, .non, _ => trivial
  | _ + 1, .bl _, _ => trivial
  | _ + 1, .int _, _ => trivial
  | _ + 1, .str _, h => h
  | _ + 1, .tup _, h => ⟨h.1, fun x hx => ⟨_, rfl, h.2 x hx⟩⟩
  | _ + 1, .lst _, h => ⟨h.1, fun x hx => ⟨_, rfl, h.2 x hx⟩⟩
theorem same_rec : ∀ (n : Nat) (d : D), sm n d → recR 2 3 sameB n [d, d] = .ok (.bl true) := by
  intro n
  induction n with
  | zero =>
    intro d h
    suffices z : W (recR 2 3 sameB 0 [d, d]) (fun x => x = .bl true) (fun _ => False) by
      obtain ⟨x, e, rfl⟩ := z.get
      exact e
    rw [W_recR (by rfl)]
    exact same_body (P := fun x => ∃ m, 0 = m + 1 ∧ sm m x) (fun x hx => by obtain ⟨m, e, _⟩ := hx; cases e) (fun x hx => by obtain ⟨m, e, _⟩ := hx; cases e) (sm_smP h)
  | succ n ih =>
    intro d h
    suffices z : W (recR 2 3 sameB (n + 1) [d, d]) (fun x => x = .bl true) (fun _ => False) by
      obtain ⟨x, e, rfl⟩ := z.get
      exact e
    rw [W_recR (by rfl)]
    refine same_body (P := fun x => ∃ m, n + 1 = m + 1 ∧ sm m x) (fun x hx => ?_) (fun x hx => ?_) (sm_smP h)
    · obtain ⟨m, e, hm⟩ := hx
      cases e
      exact ih x hm
    · obtain ⟨m, e, hm⟩ := hx
      cases e
      have := sm_smP hm
      revert this
      cases x <;> simp only [smP] <;> first | exact id | (intro q; exact ⟨q.1, fun _ _ => trivial⟩)
theorem same_ok (d : D) (h : sm 8 d) : run F__law_same [d, d] = .ok (.bl true) := by
  rw [same_is]
  exact same_rec 8 d h
theorem sm_map {a : Type} {f : a → D} {n : Nat} {l : List a} (hl : l.length ≤ 100000) (h : ∀ x ∈ l, sm n (f x)) : (l.map f).length ≤ 100000 ∧ ∀ x ∈ l.map f, sm n x := by
  refine ⟨by simpa using hl, fun x hx => ?_⟩
  obtain ⟨y, hy, rfl⟩ := List.mem_map.mp hx
  exact h y hy
end MpL

/-! PlRows: the laws' own tables of a net -/
namespace MpL
open Mp MpP
local macro_rules | `(tactic| walk_at "mp") => `(tactic| try simp -implicitDefEqProofs -dsimp only [List.take_succ_cons, List.take_zero, List.drop_succ_cons, List.drop_zero, Mp.WO_nil, Mp.wn_nx, Mp.wn_rt, Mp.wn_br, Mp.wn_ct, Mp.wn_ex, Mp.wl_nx, Mp.wl_rt, Mp.wl_br, Mp.wl_ct, Mp.wl_ex, Mp.WO_cons, Mp.WO_set, Mp.WO_sets, Mp.WO_app, Mp.WO_put, Mp.WO_exp, Mp.WO_ifs, Mp.WO_ret, Mp.WO_retN, Mp.WO_pas, Mp.WO_brk, Mp.WO_cnt, Mp.WO_wall, Mp.WO_rse, Mp.WO_apop, Mp.W_xat, Mp.W_xis, Mp.W_rvs, Mp.W_xatI, Mp.W_xisI, Mp.W_rvsL, Mp.putG_nil, Mp.putOk_lst, Mp.putOk_dF, Mp.putOk_tup, Mp.fmOk, and_false, false_and, Mp.WO_for, Mp.WO_forF1, Mp.WO_forF2, Mp.WO_forF3, Mp.WO_whl, Mp.W_nm, Mp.W_nma, Mp.W_alj, Mp.WO_ali, Mp.W_aljD, Mp.W_nmaD, Mp.W_cst, Mp.W_bin, Mp.W_neg, Mp.W_nt, Mp.W_bop, Mp.W_evb1, Mp.W_evb, Mp.W_cmp, Mp.W_isn, Mp.W_ife, Mp.W_chn, Mp.W_tupE, Mp.W_lstE, Mp.W_dctE, Mp.W_ix, Mp.W_sl, Mp.W_att, Mp.W_call, Mp.W_slf, Mp.W_meth, Mp.W_mk, Mp.W_blt, Mp.W_isi, Mp.W_bm, Mp.W_rng, Mp.W_zipE, Mp.W_enumE, Mp.W_revE, Mp.W_lc, Mp.W_dc, Mp.W_evs0, Mp.W_evs, Mp.W_evc0, Mp.W_evc, Mp.W_ok, Mp.W_exc, Mp.W_bad, Mp.W_bind, Mp.W_nox, Mp.W_of, Mp.W_need, Mp.W_gS, Mp.W_g_un, Mp.W_g_non, Mp.W_g_bl, Mp.W_g_int, Mp.W_g_str, Mp.W_g_tup, Mp.W_g_lst, Mp.W_g_dct, Mp.W_g_ins, Mp.W_g_scr, List.getElem?_cons_zero, List.getElem?_cons_succ, List.set_cons_zero, List.set_cons_succ, List.cons_append, List.nil_append, List.replicate_succ, List.replicate_zero, Nat.reduceAdd, Nat.reduceSub, Mp.W_opAdd, Mp.W_opSub, Mp.W_opMul, Mp.W_opDiv, Mp.W_opMod, Mp.W_opPow, Mp.W_opCat, Mp.W_opCatT, Mp.W_opRep, List.length_cons, List.length_nil, Mp.W_eqRI, Mp.W_lcF1, Mp.W_lcFc, Mp.cmpD, Mp.truD, Mp.isNon, Mp.W_ixL, Mp.W_ixT, Mp.W_ixS, Mp.W_ix20, Mp.W_ix60, Mp.W_ix61, Mp.W_ix62, Mp.W_ix63, Mp.W_ix64, Mp.W_ix65, Mp.W_ix21, Mp.W_ix30, Mp.W_ix31, Mp.W_ix32, Mp.slD, Mp.toP, Mp.negD, Mp.items, Mp.W_rngD, Mp.zipD, Mp.enumD, Mp.revD, Mp.W_lenL, Mp.W_lenT, Mp.W_lenC, Mp.W_intI, Mp.W_listL, Mp.W_listT, Mp.W_tupL, Mp.W_tupT, Mp.W_min2, Mp.W_max2, Mp.W_absI, Mp.W_sortL, Mp.bmD, Mp.rcv, Mp.setTg, Mp.setAll, Mp.locD_nil, Mp.muAt_nil, Mp.W_muApp, Mp.W_muDct, Mp.W_att_cons, Mp.WO_setFc, Mp.fputF, Mp.fputV, ↓reduceIte, Nat.reduceEqDiff, Mp.W_isi_non_int, Mp.W_isi_non_bool, Mp.W_isi_non_str, Mp.W_isi_non_list, Mp.W_isi_non_tuple, Mp.W_isi_bl_int, Mp.W_isi_bl_bool, Mp.W_isi_bl_str, Mp.W_isi_bl_list, Mp.W_isi_bl_tuple, Mp.W_isi_int_int, Mp.W_isi_int_bool, Mp.W_isi_int_str, Mp.W_isi_int_list, Mp.W_isi_int_tuple, Mp.W_isi_str_int, Mp.W_isi_str_bool, Mp.W_isi_str_str, Mp.W_isi_str_list, Mp.W_isi_str_tuple, Mp.W_isi_tup_int, Mp.W_isi_tup_bool, Mp.W_isi_tup_str, Mp.W_isi_tup_list, Mp.W_isi_tup_tuple, Mp.W_isi_lst_int, Mp.W_isi_lst_bool, Mp.W_isi_lst_str, Mp.W_isi_lst_list, Mp.W_isi_lst_tuple, Mp.W_isi_ins_int, Mp.W_isi_ins_bool, Mp.W_isi_ins_str, Mp.W_isi_ins_list, Mp.W_isi_ins_tuple, Mp.isCls_ins, Mp.ite_bl, Mp.ite_bf, Mp.ite_pp, List.length_map, decide_eq_true_eq, beq_iff_eq, beq_eq_false_iff_ne, decide_eq_false_iff_not, Option.some.injEq, Mp.D.lst.injEq, exists_eq_left', exists_eq_left, Bool.not_eq_true', Bool.not_eq_false', beq_self_eq_true, Bool.not_true, Bool.not_false, reduceCtorEq, false_implies, not_true_eq_false, not_false_eq_true, implies_true, true_and, and_true, true_implies, forall_const, if_true, if_false])
local macro_rules | `(tactic| walk_at "br") => `(tactic| (repeat' (first | apply And.intro | intro _)) <;> (first | omega | exact Mp.inB_nat (by omega) (by omega) | skip))
theorem lrows_ok (w : List Nat) (hw : WOK w) : run F__law_rows [.lst (w.map dN)] = .ok (.lst ((rows w).map dN)) := by
  have hl2 := hw.l2
  have hsum := hw.sum
  unfold F__law_rows
  refine RnE (by rfl) ?_
  walk_at "mp"
  refine ⟨by omega, WO_forRng (fun k e => ∃ x : D, e = [.lst (w.map dN), .lst (((List.range (S w k)).map (rowOf w)).map dN), x]) ⟨_, rfl⟩ ?_ ?_⟩
  · rintro k hk _ ⟨x, rfl⟩
    unfold F__law_rows_b1
    have hk' : k < w.length := by omega
    have e1 : getA w (0 + (k : Int)) = w[k] := getA_nat k (by omega) hk'
    have hle := hw.le _ (List.getElem_mem hk')
    have hb := S_le (w := w) (k := k)
    walk_at "mp"
    rw [e1]
    refine ⟨inB_nat (by omega) (by omega), ⟨by omega, by omega, by simp [LIM]; omega⟩, ?_⟩
    rw [List.flatten_replicate_singleton]
    refine ⟨by simp [LIM]; omega, .int (0 + (k : Int)), ?_⟩
    congr 3
    rw [S_succ hk', List.range_add, List.map_append, List.map_append, Int.toNat_natCast]
    congr 1
    rw [List.map_map, List.map_map]
    refine List.ext_getElem (by simp) fun i h1 h2 => ?_
    simp only [List.getElem_replicate, List.getElem_map, List.getElem_range, Function.comp]
    rw [rowOf_eq hk' (by omega) (by rw [S_succ hk']; simp at h2; omega)]
    simp
  · rintro _ ⟨x, rfl⟩
    walk_at "mp"
    rw [show ((w.length : Int) - 0).toNat = w.length by omega, S_all (Nat.le_refl _)]
    rfl
end MpL

/-! PlTry: the slots stay as many; try. -/
namespace Mp
def LenO (n : Nat) : O → Prop
  | .nx e => e.length = n
  | .rt _ e => e.length = n
  | .br e => e.length = n
  | .ct e => e.length = n
  | .ex _ e => e.length = n
  | .bad => True
theorem LenO.toO {n : Nat} {r : R D} {env : List D} {f : D → O} (h : env.length = n) (hf : ∀ d, LenO n (f d)) : LenO n (r.toO env f) := by
  cases r with
  | ok d => exact hf d
  | exc d => exact h
  | bad => trivial
theorem LenO.toOl {n : Nat} {r : R (List D)} {env : List D} {f : List D → O} (h : env.length = n) (hf : ∀ d, LenO n (f d)) : LenO n (r.toOl env f) := by
  cases r with
  | ok d => exact hf d
  | exc d => exact h
  | bad => trivial
theorem setAll_len : ∀ {is : List Nat} {ds env env' : List D}, setAll is ds env = some env' → env'.length = env.length
  | [], [], env, env', h => by cases h; rfl
  | i :: is, d :: ds, env, env', h => by
    have := setAll_len (env := env.set i d) h
    simpa using this
  | [], _ :: _, _, _, h => by cases h
  | _ :: _, [], _, _, h => by cases h
theorem setTg_len {tg : List Nat} {d : D} {env env' : List D} (h : setTg tg d env = some env') : env'.length = env.length := by
  unfold setTg at h
  split at h
  · cases h; simp
  · exact setAll_len h
  · cases h
theorem forGo_len {n : Nat} {f : D → List D → O} (hf : ∀ x env, env.length = n → LenO n (f x env)) : ∀ (xs : List D) (env : List D), env.length = n → LenO n (forGo f xs env)
  | [], env, h => h
  | x :: xs, env, h => by
    unfold forGo
    have q := hf x env h
    cases e : f x env with
    | nx e1 => rw [e] at q; exact forGo_len hf xs e1 q
    | ct e1 => rw [e] at q; exact forGo_len hf xs e1 q
    | br e1 => rw [e] at q; exact q
    | rt d e1 => rw [e] at q; exact q
    | ex d e1 => rw [e] at q; exact q
    | bad => trivial
theorem whlGo_len {n : Nat} {c : List D → R Bool} {f : List D → O} (hf : ∀ env, env.length = n → LenO n (f env)) : ∀ (k : Nat) (env : List D), env.length = n → LenO n (whlGo c f k env)
  | 0, env, h => trivial
  | k + 1, env, h => by
    unfold whlGo
    cases c env with
    | ok b =>
      cases b with
      | true =>
        have q := hf env h
        show LenO n (match f env with | .nx e => whlGo c f k e | .ct e => whlGo c f k e | .br e => .nx e | o => o)
        cases e : f env with
        | nx e1 => rw [e] at q; exact whlGo_len hf k e1 q
        | ct e1 => rw [e] at q; exact whlGo_len hf k e1 q
        | br e1 => rw [e] at q; exact q
        | rt d e1 => rw [e] at q; exact q
        | ex d e1 => rw [e] at q; exact q
        | bad => trivial
      | false => exact h
    | exc d => exact h
    | bad => trivial
mutual
theorem exec_len : ∀ (t : S) (s : Sf) (env : List D), LenO env.length (exec t s env)
  | .set i e, s, env => by
    simp only [exec]
    exact .toO rfl fun d => by simp [LenO]
  | .sets is e, s, env => by
    simp only [exec]
    refine .toO rfl fun d => ?_
    split
    · rename_i h; exact setTg_len h
    · trivial
  | .app i p e, s, env => by
    simp only [exec]
    refine .toO rfl fun d => .toOl rfl fun ps => ?_
    split
    · exact .toO rfl fun y => .toO rfl fun d' => by simp [LenO]
    · trivial
  | .put i p k e, s, env => by
    simp only [exec]
    refine .toO rfl fun y => .toO rfl fun d => .toOl rfl fun ps => ?_
    split
    · refine .toO rfl fun kk => ?_
      split
      · exact .toO rfl fun d' => by simp [LenO]
      · trivial
    · trivial
  | .setF f e, s, env => by
    simp only [exec]
    refine .toO rfl fun d => ?_
    split
    · split
      · simp [LenO]
      · trivial
    · trivial
  | .ali i b e, s, env => by
    simp only [exec]
    refine .toO rfl fun d => .toO rfl fun k => ?_
    split
    · split
      · simp [LenO]
      · trivial
    · trivial
  | .exp e, s, env => by
    simp only [exec]
    exact .toO rfl fun d => rfl
  | .ifs c a b, s, env => by
    simp only [exec]
    refine .toO rfl fun d => ?_
    split
    · exact execs_len a s env
    · exact execs_len b s env
  | .for_ tg it body, s, env => by
    simp only [exec]
    refine .toO rfl fun c => .toOl rfl fun xs => forGo_len (fun x e h => ?_) xs env rfl
    split
    · rename_i e2 h2
      have := execs_len body s e2
      rw [setTg_len h2, h] at this
      exact this
    · trivial
  | .whl c body, s, env => by
    simp only [exec]
    refine whlGo_len (fun e h => ?_) _ env rfl
    have := execs_len body s e
    rw [h] at this
    exact this
  | .ret e, s, env => by
    simp only [exec]
    exact .toO rfl fun d => rfl
  | .retN, s, env => rfl
  | .brk, s, env => rfl
  | .cnt, s, env => rfl
  | .pas, s, env => rfl
  | .wall, s, env => trivial
  | .rse c fs fm es, s, env => by
    simp only [exec]
    refine .toOl rfl fun ds => ?_
    split
    · rfl
    · trivial
  | .tri body hs, s, env => by
    simp only [exec]
    have q := execs_len body s env
    split
    · rename_i d e h
      rw [h] at q
      have := exech_len hs s d e
      rw [show e.length = env.length from q] at this
      exact this
    · exact q
  | .apop i j k, s, env => by
    simp only [exec]
    refine .toO rfl fun d => .toO rfl fun c => ?_
    split
    · refine .toO rfl fun z => ?_
      split
      · split
        · simp [LenO]
        · trivial
      · trivial
    · trivial
theorem execs_len : ∀ (ts : List S) (s : Sf) (env : List D), LenO env.length (execs ts s env)
  | [], s, env => rfl
  | t :: ts, s, env => by
    simp only [execs]
    have q := exec_len t s env
    split
    · rename_i e h
      rw [h] at q
      have := execs_len ts s e
      rw [show e.length = env.length from q] at this
      exact this
    · exact q
theorem exech_len : ∀ (hs : List Hn) (s : Sf) (d : D) (env : List D), LenO env.length (exech hs s d env)
  | [], s, d, env => rfl
  | h :: hs, s, d, env => by
    simp only [exech]
    have q := exec1_len h s d env
    split
    · rename_i o ho
      exact q o ho
    · exact exech_len hs s d env
theorem exec1_len : ∀ (h : Hn) (s : Sf) (d : D) (env : List D) (o : O), exec1 h s d env = some o → LenO env.length o
  | .mk k i suite, s, d, env, o, h => by
    simp only [exec1] at h
    split at h
    · cases h
      have q := execs_len suite s (env.set i d)
      split
      · rename_i e he
        rw [he] at q
        simpa [LenO] using q
      · rename_i v e he
        rw [he] at q
        simpa [LenO] using q
      · trivial
    · cases h
    · cases h; trivial
end
section
variable {s : Sf} {env : List D} {P : Po}
/-- the handlers' wish -/
def TgT (P : Po) (hs : List Hn) (s : Sf) (n : Nat) : D → Prop := fun d => ∀ e : List D, e.length = n → WO (exech hs s d e) P
theorem WO_triI {body : List S} {hs : List Hn} (h : WO (execs body s env) { P with ex := TgT P hs s env.length }) : WO (exec (.tri body hs) s env) P := by
  show VO (exec (.tri body hs) s env) P
  have h : VO (execs body s env) { P with ex := TgT P hs s env.length } := h
  simp only [exec]
  have l := execs_len body s env
  cases e : execs body s env with
  | nx x => rw [e] at h; exact h
  | rt d x => rw [e] at h; exact h
  | br x => rw [e] at h; exact h
  | ct x => rw [e] at h; exact h
  | ex d x => rw [e] at h l; exact h x l
  | bad => rw [e] at h; exact h
theorem WO_h0 {d : D} : WO (exech [] s d env) P = P.ex d := rfl
theorem WO_h1 {k i c : Nat} {suite : List S} {hs : List Hn} {fs : List Nat} {vs : List D} : WO (exech (.mk k i suite :: hs) s (.ins c fs vs) env) P = if hitX k c = true then WO (execs suite s (env.set i (.ins c fs vs))) ⟨fun e => P.nx (e.set i .un), P.rt, fun _ => False, fun _ => False, fun _ => False⟩ else WO (exech hs s (.ins c fs vs) env) P := by
  show VO (exech _ s _ env) P = if _ then VO _ _ else VO _ _
  simp only [exech, exec1, xisD]
  cases hitX k c with
  | true =>
    simp only [if_true]
    cases execs suite s (env.set i (.ins c fs vs)) <;> rfl
  | false => simp
end
end Mp

/-! PlScan: roads in a drawn order, some of them wrong: what check_roads finds -/
namespace MpL
open Mp MpP
local macro_rules | `(tactic| walk_at "mp") => `(tactic| try simp -implicitDefEqProofs -dsimp only [List.take_succ_cons, List.take_zero, List.drop_succ_cons, List.drop_zero, Mp.WO_nil, Mp.wn_nx, Mp.wn_rt, Mp.wn_br, Mp.wn_ct, Mp.wn_ex, Mp.wl_nx, Mp.wl_rt, Mp.wl_br, Mp.wl_ct, Mp.wl_ex, Mp.WO_cons, Mp.WO_set, Mp.WO_sets, Mp.WO_app, Mp.WO_put, Mp.WO_exp, Mp.WO_ifs, Mp.WO_ret, Mp.WO_retN, Mp.WO_pas, Mp.WO_brk, Mp.WO_cnt, Mp.WO_wall, Mp.WO_rse, Mp.WO_apop, Mp.W_xat, Mp.W_xis, Mp.W_rvs, Mp.W_xatI, Mp.W_xisI, Mp.W_rvsL, Mp.putG_nil, Mp.putOk_lst, Mp.putOk_dF, Mp.putOk_tup, Mp.fmOk, and_false, false_and, Mp.WO_for, Mp.WO_forF1, Mp.WO_forF2, Mp.WO_forF3, Mp.WO_whl, Mp.W_nm, Mp.W_nma, Mp.W_alj, Mp.WO_ali, Mp.W_aljD, Mp.W_nmaD, Mp.W_cst, Mp.W_bin, Mp.W_neg, Mp.W_nt, Mp.W_bop, Mp.W_evb1, Mp.W_evb, Mp.W_cmp, Mp.W_isn, Mp.W_ife, Mp.W_chn, Mp.W_tupE, Mp.W_lstE, Mp.W_dctE, Mp.W_ix, Mp.W_sl, Mp.W_att, Mp.W_call, Mp.W_slf, Mp.W_meth, Mp.W_mk, Mp.W_blt, Mp.W_isi, Mp.W_bm, Mp.W_rng, Mp.W_zipE, Mp.W_enumE, Mp.W_revE, Mp.W_lc, Mp.W_dc, Mp.W_evs0, Mp.W_evs, Mp.W_evc0, Mp.W_evc, Mp.W_ok, Mp.W_exc, Mp.W_bad, Mp.W_bind, Mp.W_nox, Mp.W_of, Mp.W_need, Mp.W_gS, Mp.W_g_un, Mp.W_g_non, Mp.W_g_bl, Mp.W_g_int, Mp.W_g_str, Mp.W_g_tup, Mp.W_g_lst, Mp.W_g_dct, Mp.W_g_ins, Mp.W_g_scr, List.getElem?_cons_zero, List.getElem?_cons_succ, List.set_cons_zero, List.set_cons_succ, List.cons_append, List.nil_append, List.replicate_succ, List.replicate_zero, Nat.reduceAdd, Nat.reduceSub, Mp.W_opAdd, Mp.W_opSub, Mp.W_opMul, Mp.W_opDiv, Mp.W_opMod, Mp.W_opPow, Mp.W_opCat, Mp.W_opCatT, Mp.W_opRep, List.length_cons, List.length_nil, Mp.W_eqRI, Mp.W_lcF1, Mp.W_lcFc, Mp.cmpD, Mp.truD, Mp.isNon, Mp.W_ixL, Mp.W_ixT, Mp.W_ixS, Mp.W_ix20, Mp.W_ix60, Mp.W_ix61, Mp.W_ix62, Mp.W_ix63, Mp.W_ix64, Mp.W_ix65, Mp.W_ix21, Mp.W_ix30, Mp.W_ix31, Mp.W_ix32, Mp.slD, Mp.toP, Mp.negD, Mp.items, Mp.W_rngD, Mp.zipD, Mp.enumD, Mp.revD, Mp.W_lenL, Mp.W_lenT, Mp.W_lenC, Mp.W_intI, Mp.W_listL, Mp.W_listT, Mp.W_tupL, Mp.W_tupT, Mp.W_min2, Mp.W_max2, Mp.W_absI, Mp.W_sortL, Mp.bmD, Mp.rcv, Mp.setTg, Mp.setAll, Mp.locD_nil, Mp.muAt_nil, Mp.W_muApp, Mp.W_muDct, Mp.W_att_cons, Mp.WO_setFc, Mp.fputF, Mp.fputV, ↓reduceIte, Nat.reduceEqDiff, Mp.W_isi_non_int, Mp.W_isi_non_bool, Mp.W_isi_non_str, Mp.W_isi_non_list, Mp.W_isi_non_tuple, Mp.W_isi_bl_int, Mp.W_isi_bl_bool, Mp.W_isi_bl_str, Mp.W_isi_bl_list, Mp.W_isi_bl_tuple, Mp.W_isi_int_int, Mp.W_isi_int_bool, Mp.W_isi_int_str, Mp.W_isi_int_list, Mp.W_isi_int_tuple, Mp.W_isi_str_int, Mp.W_isi_str_bool, Mp.W_isi_str_str, Mp.W_isi_str_list, Mp.W_isi_str_tuple, Mp.W_isi_tup_int, Mp.W_isi_tup_bool, Mp.W_isi_tup_str, Mp.W_isi_tup_list, Mp.W_isi_tup_tuple, Mp.W_isi_lst_int, Mp.W_isi_lst_bool, Mp.W_isi_lst_str, Mp.W_isi_lst_list, Mp.W_isi_lst_tuple, Mp.W_isi_ins_int, Mp.W_isi_ins_bool, Mp.W_isi_ins_str, Mp.W_isi_ins_list, Mp.W_isi_ins_tuple, Mp.isCls_ins, Mp.ite_bl, Mp.ite_bf, Mp.ite_pp, List.length_map, decide_eq_true_eq, beq_iff_eq, beq_eq_false_iff_ne, decide_eq_false_iff_not, Option.some.injEq, Mp.D.lst.injEq, exists_eq_left', exists_eq_left, Bool.not_eq_true', Bool.not_eq_false', beq_self_eq_true, Bool.not_true, Bool.not_false, reduceCtorEq, false_implies, not_true_eq_false, not_false_eq_true, implies_true, true_and, and_true, true_implies, forall_const, if_true, if_false])
local macro_rules | `(tactic| walk_at "br") => `(tactic| (repeat' (first | apply And.intro | intro _)) <;> (first | omega | exact Mp.inB_nat (by omega) (by omega) | skip))
/-- a road as it is handed in -/
abbrev RI := Int × Int × Int
abbrev dRI (r : RI) : D := .tup [.int r.1, .int r.2.1, .int r.2.2]
abbrev sI (r : RI) : Int × Int := (r.1, r.2.1)
abbrev dPI (p : Int × Int) : D := .tup [.int p.1, .int p.2]
def rowI (w : List Nat) (x : Int) : Int := (rowOf w x.toNat : Nat)
/-- from a row to the next one -/
def VI (w : List Nat) (r : RI) : Prop := (0 ≤ r.1 ∧ r.1 < (w.sum : Nat) ∧ 0 ≤ r.2.1 ∧ r.2.1 < (w.sum : Nat)) ∧ rowI w r.2.1 = rowI w r.1 + 1
instance {w : List Nat} {r : RI} : Decidable (VI w r) := by unfold VI; infer_instance
def CI (r q : RI) : Prop := if r.1 < q.1 then q.2.1 < r.2.1 else q.1 < r.1 ∧ r.2.1 < q.2.1
instance {r q : RI} : Decidable (CI r q) := by unfold CI; infer_instance
/-- the first of l that crosses r -/
def fcI (l : List RI) (r : RI) : Option Nat := (List.range l.length).find? fun j => decide (CI (l.getD j (0, 0, 0)) r)
/-- what is wrong at place k: nothing, the road itself, that it crosses an earlier one -/
def vAt (w : List Nat) (l : List RI) (k : Nat) : Option (Option Nat) :=
  if VI w (l.getD k (0, 0, 0)) ∧ sI (l.getD k (0, 0, 0)) ∉ (l.take k).map sI then (fcI (l.take k) (l.getD k (0, 0, 0))).map some else some none
/-- the first wrong place -/
def verd (w : List Nat) (l : List RI) : Option (Nat × Option Nat) := (List.range l.length).findSome? fun k => (vAt w l k).map fun v => (k, v)
theorem fsome_at {α : Type} {n k : Nat} {f : Nat → Option α} {x : α} (h : ∀ j < k, f j = none) (hk : k < n) (hx : f k = some x) : (List.range n).findSome? f = some x := by
  obtain ⟨m, rfl⟩ : ∃ m, n = k + (m + 1) := ⟨n - k - 1, by omega⟩
  rw [List.range_add, List.findSome?_append, List.findSome?_eq_none_iff.mpr (fun j hj => h j (List.mem_range.mp hj))]
  simp [List.range_succ_eq_map, hx]
theorem verd_at {w : List Nat} {l : List RI} {k : Nat} {v : Option Nat} (h : ∀ j < k, vAt w l j = none) (hk : k < l.length) (hv : vAt w l k = some v) : verd w l = some (k, v) := by
  refine fsome_at (fun j hj => by rw [h j hj]; rfl) hk ?_
  rw [hv]; rfl
theorem verd_none {w : List Nat} {l : List RI} (h : ∀ j < l.length, vAt w l j = none) : verd w l = none := by
  unfold verd
  rw [List.findSome?_eq_none_iff]
  intro j hj
  rw [h j (List.mem_range.mp hj)]; rfl
theorem vAt_bad {w : List Nat} {l : List RI} {k : Nat} (hk : k < l.length) (h : ¬ (VI w l[k] ∧ sI l[k] ∉ (l.take k).map sI)) : vAt w l k = some none := by
  unfold vAt
  rw [List.getD_eq_getElem?_getD, List.getElem?_eq_getElem hk, Option.getD_some, if_neg h]
theorem vAt_crs {w : List Nat} {l : List RI} {k : Nat} (hk : k < l.length) (h : VI w l[k] ∧ sI l[k] ∉ (l.take k).map sI) : vAt w l k = (fcI (l.take k) l[k]).map some := by
  unfold vAt
  rw [List.getD_eq_getElem?_getD, List.getElem?_eq_getElem hk, Option.getD_some, if_pos h]
theorem eqD_dPI2 {p q : Int × Int} : eqD (dPI p) (dPI q) = decide (p = q) := by
  obtain ⟨a, b⟩ := p
  obtain ⟨c, d⟩ := q
  simp only [eqD, eqL, Bool.and_true]
  by_cases h1 : a = c <;> by_cases h2 : b = d <;> simp [h1, h2]
theorem memL_dPI {p : Int × Int} {l : List (Int × Int)} : memL (dPI p) (l.map dPI) = decide (p ∈ l) := by
  induction l with
  | nil => rfl
  | cons q l ih =>
    rw [List.map_cons, memL, eqD_dPI2, ih]
    by_cases h1 : q = p
    · simp [h1]
    · have h2 : ¬ p = q := fun h => h1 h.symm
      simp [h1, h2]
/-! ### the defs -/
theorem rowsA {w : List Nat} {x : Int} (h0 : 0 ≤ x) (h1 : x < (w.sum : Nat)) : dN (getA (rows w) x) = .int (rowI w x) := by
  have : getA (rows w) x = rowOf w x.toNat := by rw [getA_nat x.toNat (by omega) (by rw [rows_len]; omega), rows_at]
  rw [this]; rfl
theorem rowsB {w : List Nat} {x : Int} (h0 : 0 ≤ x) (h1 : x < (w.sum : Nat)) : ((getA (rows w) x : Nat) : Int) = rowI w x := by
  have : getA (rows w) x = rowOf w x.toNat := by rw [getA_nat x.toNat (by omega) (by rw [rows_len]; omega), rows_at]
  rw [this]; rfl
theorem joinsI (w : List Nat) (r : RI) : run F_joins_rows [.tup ((rows w).map dN), dRI r] = .ok (.bl (decide (VI w r))) := by
  unfold F_joins_rows
  refine RnE (by rfl) ?_
  have hl := rows_len (w := w)
  walk_at "mp"
  have no : ¬ VI w r → D.bl (decide (VI w r)) = .bl false := fun h => by rw [decide_eq_false h]
  refine ⟨fun q1 => ⟨fun q2 => ⟨fun q3 => ⟨fun q4 => no fun z => by have := z.1; omega, fun q4 => ?_⟩, fun q3 => ⟨fun q => no fun z => by have := z.1; omega, fun z => (q3 z).elim⟩⟩, fun q2 => ⟨fun q => no fun z => by have := z.1; omega, fun z => (q2 z).elim⟩⟩, fun q1 => ⟨fun q => no fun z => by have := z.1; omega, fun z => (q1 z).elim⟩⟩
  refine ⟨inB_nat (by omega) (by omega), inB_nat (by omega) (by omega), ?_⟩
  rw [rowsB (by omega) (by omega), rowsB (by omega) (by omega)]
  congr 1
  by_cases e : rowI w r.2.1 = rowI w r.1 + 1
  · rw [decide_eq_true ⟨⟨by omega, by omega, by omega, by omega⟩, e⟩, e]
    simp
  · rw [decide_eq_false fun z => e z.2]
    simp [e]
theorem doubleI (l : List RI) (r : RI) (hl : l.length ≤ 16777216) : run F_is_double [.tup (l.map dRI), dRI r] = .ok (.bl (decide (sI r ∈ l.map sI))) := by
  unfold F_is_double
  refine RnE (by rfl) ?_
  walk_at "mp"
  refine W_lcGo (h := fun r => dPI (sI r)) ?_ ⟨by simpa [LIM] using hl, ?_⟩
  · intro x hx
    refine lcF_eq ?_
    unfold F_is_double_e1
    walk_at "mp"
  · show W (memD (dPI (sI r)) (.lst (l.map fun r => dPI (sI r)))) _ _
    have e : l.map (fun r => dPI (sI r)) = (l.map sI).map dPI := by rw [List.map_map]; rfl
    unfold memD
    rw [e, W_need, W_ok, memL_dPI, okL_map (fun p _ => rfl)]
    exact ⟨rfl, rfl⟩
theorem crossI (r q : RI) : run F_do_cross [dRI r, dRI q] = .ok (.bl (decide (CI r q))) := by
  unfold F_do_cross
  refine RnE (by rfl) ?_
  walk_at "mp"
  have e1 : r.1 < q.1 → CI r q = (q.2.1 < r.2.1) := fun h => by unfold CI; rw [if_pos h]
  have e2 : ¬ r.1 < q.1 → CI r q = (q.1 < r.1 ∧ r.2.1 < q.2.1) := fun h => by unfold CI; rw [if_neg h]
  refine ⟨fun h => ?_, fun h => ⟨fun h1 => ?_, fun h1 => ?_⟩⟩
  · congr 1
    exact decide_eq_decide.mpr (by rw [e1 h])
  · congr 1
    exact decide_eq_decide.mpr (by rw [e2 h]; omega)
  · congr 1
    first
      | exact decide_eq_decide.mpr (by rw [e2 h]; omega)
      | (rw [decide_eq_false]; rw [e2 h]; omega)
abbrev dNo (o : Option Nat) : D := match o with
  | none => .non
  | some k => .int k
theorem find_first {n k : Nat} {p : Nat → Bool} (h : ∀ j < k, p j = false) (hk : k < n) (hp : p k = true) : (List.range n).find? p = some k := by
  rw [List.find?_range_eq_some]
  exact ⟨hp, List.mem_range.mpr hk, fun j hj => by rw [h j hj]; rfl⟩
theorem find_none {n : Nat} {p : Nat → Bool} (h : ∀ j < n, p j = false) : (List.range n).find? p = none := by
  rw [List.find?_eq_none]
  intro j hj
  rw [h j (List.mem_range.mp hj)]
  simp
theorem crossedI (l : List RI) (r : RI) (hl : l.length ≤ 8388608) : run F_first_crossed [.tup (l.map dRI), dRI r] = .ok (dNo (fcI l r)) := by
  unfold F_first_crossed
  refine RnE (by rfl) ?_
  walk_at "mp"
  refine ⟨by omega, WO_forRng (fun k e => (∀ j < k, decide (CI (l.getD j (0, 0, 0)) r) = false) ∧ ∃ x : D, e = [.tup (l.map dRI), dRI r, x]) ⟨fun j hj => by omega, .un, rfl⟩ ?_ ?_⟩
  · rintro k hk _ ⟨hb, x, rfl⟩
    unfold F_first_crossed_b1
    have hk' : k < l.length := by omega
    have e : getA l (0 + (k : Int)) = l[k] := getA_nat k (by omega) hk'
    have ed : l.getD k (0, 0, 0) = l[k] := by rw [List.getD_eq_getElem?_getD, List.getElem?_eq_getElem hk', Option.getD_some]
    walk_at "mp"
    refine ⟨inB_nat (by omega) (by omega), W.by (crossI (getA l (0 + (k : Int))) r) ?_⟩
    rw [e]
    walk_at "mp"
    refine ⟨fun h => ?_, fun h => ⟨fun j hj => ?_, _, rfl⟩⟩
    · unfold fcI
      rw [find_first hb hk' (by rw [ed]; simpa using h)]
      simp
    · by_cases q : j = k
      · subst q
        rw [ed]
        simpa using h
      · simpa using hb j (by omega)
  · rintro _ ⟨hb, x, rfl⟩
    have : fcI l r = none := by
      unfold fcI
      exact find_none (fun j hj => hb j (by omega))
    rw [this]
    rfl
/-- what check_roads tells -/
def errD (k : Nat) : Option Nat → D
  | none => .ins X_BadNet [0] [.int k]
  | some j => .ins X_RoadsCross [1, 2] [.int j, .int k]
theorem checkI (w : List Nat) (ls : List RI) (hw : WOK w) (hl : ls.length ≤ 100000) : W (run F_check_roads [.tup ((starts w).map dN), .tup (ls.map dRI)]) (fun d => verd w ls = none ∧ d = .non) (fun d => ∃ k v, verd w ls = some (k, v) ∧ d = errD k v) := by
  have h1 := hw.l2
  have h2 := hw.sum
  unfold F_check_roads
  rw [W_run (by rfl)]
  walk_at "mp"
  refine W.by (rows_ok w (by omega) (by omega)) ?_
  walk_at "mp"
  refine ⟨by omega, WO_forRng (fun k e => (∀ j < k, vAt w ls j = none) ∧ ∃ x y : D, e = [.tup ((starts w).map dN), .tup (ls.map dRI), .tup ((rows w).map dN), x, y]) ⟨fun j hj => by omega, .un, .un, rfl⟩ ?_ ?_⟩
  · rintro k hk _ ⟨hb, x, y, rfl⟩
    unfold F_check_roads_b1
    have hk' : k < ls.length := by omega
    have z : (0 : Int) + (k : Int) = (k : Int) := by omega
    have ht : (ls.take k).length ≤ 100000 := by simp; omega
    have c := cut_take (f := dRI) (l := ls) (k := k)
    rw [List.length_map] at c
    have e' : getA ls (k : Int) = ls[k] := getA_nat k rfl hk'
    have hj := joinsI w ls[k]
    have hd := doubleI (ls.take k) ls[k] (by omega)
    have hc := crossedI (ls.take k) ls[k] (by omega)
    have fm1 : (decide ((k : Int).natAbs < 18446744073709551616) && true) = true := by
      simp only [Bool.and_true, decide_eq_true_eq]
      omega
    rw [z]
    walk_at "mp"
    rw [e']
    refine ⟨inB_nat (by omega) (by omega), W.by hj ?_⟩
    by_cases hv : VI w ls[k]
    · rw [decide_eq_true hv]
      walk_at "mp"
      rw [c, e']
      refine ⟨inB_nat (by omega) (by omega), W.by hd ?_⟩
      by_cases hdup : sI ls[k] ∈ (ls.take k).map sI
      · rw [decide_eq_true hdup]
        walk_at "mp"
        exact ⟨fm1, _, _, verd_at hb hk' (vAt_bad hk' (fun q => q.2 hdup)), rfl⟩
      · rw [decide_eq_false hdup]
        walk_at "mp"
        rw [c, e']
        refine ⟨inB_nat (by omega) (by omega), W.by hc ?_⟩
        cases hf : fcI (ls.take k) ls[k] with
        | none =>
          walk_at "mp"
          refine ⟨fun j hj => ?_, _, _, rfl⟩
          by_cases q : j = k
          · subst q
            rw [vAt_crs hk' ⟨hv, hdup⟩, hf]
            rfl
          · exact hb j (by omega)
        | some j =>
          walk_at "mp"
          have hjl : j < k := by
            have := List.mem_range.mp (List.mem_of_find?_eq_some hf)
            simp at this
            omega
          refine ⟨by simp only [Bool.and_true, Bool.and_eq_true, decide_eq_true_eq]; omega, _, _, verd_at hb hk' (v := some j) (by rw [vAt_crs hk' ⟨hv, hdup⟩, hf]; rfl), rfl⟩
    · rw [decide_eq_false hv]
      walk_at "mp"
      exact ⟨fm1, _, _, verd_at hb hk' (vAt_bad hk' (fun q => hv q.1)), rfl⟩
  · rintro _ ⟨hb, x, y, rfl⟩
    walk_at "mp"
    exact verd_none (fun j hj => hb j (by omega))
end MpL

/-! PlScan2: the law's own scan -/
namespace MpL
open Mp MpP
local macro_rules | `(tactic| walk_at "mp") => `(tactic| try simp -implicitDefEqProofs -dsimp only [List.take_succ_cons, List.take_zero, List.drop_succ_cons, List.drop_zero, Mp.WO_nil, Mp.wn_nx, Mp.wn_rt, Mp.wn_br, Mp.wn_ct, Mp.wn_ex, Mp.wl_nx, Mp.wl_rt, Mp.wl_br, Mp.wl_ct, Mp.wl_ex, Mp.WO_cons, Mp.WO_set, Mp.WO_sets, Mp.WO_app, Mp.WO_put, Mp.WO_exp, Mp.WO_ifs, Mp.WO_ret, Mp.WO_retN, Mp.WO_pas, Mp.WO_brk, Mp.WO_cnt, Mp.WO_wall, Mp.WO_rse, Mp.WO_apop, Mp.W_xat, Mp.W_xis, Mp.W_rvs, Mp.W_xatI, Mp.W_xisI, Mp.W_rvsL, Mp.putG_nil, Mp.putOk_lst, Mp.putOk_dF, Mp.putOk_tup, Mp.fmOk, and_false, false_and, Mp.WO_for, Mp.WO_forF1, Mp.WO_forF2, Mp.WO_forF3, Mp.WO_whl, Mp.W_nm, Mp.W_nma, Mp.W_alj, Mp.WO_ali, Mp.W_aljD, Mp.W_nmaD, Mp.W_cst, Mp.W_bin, Mp.W_neg, Mp.W_nt, Mp.W_bop, Mp.W_evb1, Mp.W_evb, Mp.W_cmp, Mp.W_isn, Mp.W_ife, Mp.W_chn, Mp.W_tupE, Mp.W_lstE, Mp.W_dctE, Mp.W_ix, Mp.W_sl, Mp.W_att, Mp.W_call, Mp.W_slf, Mp.W_meth, Mp.W_mk, Mp.W_blt, Mp.W_isi, Mp.W_bm, Mp.W_rng, Mp.W_zipE, Mp.W_enumE, Mp.W_revE, Mp.W_lc, Mp.W_dc, Mp.W_evs0, Mp.W_evs, Mp.W_evc0, Mp.W_evc, Mp.W_ok, Mp.W_exc, Mp.W_bad, Mp.W_bind, Mp.W_nox, Mp.W_of, Mp.W_need, Mp.W_gS, Mp.W_g_un, Mp.W_g_non, Mp.W_g_bl, Mp.W_g_int, Mp.W_g_str, Mp.W_g_tup, Mp.W_g_lst, Mp.W_g_dct, Mp.W_g_ins, Mp.W_g_scr, List.getElem?_cons_zero, List.getElem?_cons_succ, List.set_cons_zero, List.set_cons_succ, List.cons_append, List.nil_append, List.replicate_succ, List.replicate_zero, Nat.reduceAdd, Nat.reduceSub, Mp.W_opAdd, Mp.W_opSub, Mp.W_opMul, Mp.W_opDiv, Mp.W_opMod, Mp.W_opPow, Mp.W_opCat, Mp.W_opCatT, Mp.W_opRep, List.length_cons, List.length_nil, Mp.W_eqRI, Mp.W_lcF1, Mp.W_lcFc, Mp.cmpD, Mp.truD, Mp.isNon, Mp.W_ixL, Mp.W_ixT, Mp.W_ixS, Mp.W_ix20, Mp.W_ix60, Mp.W_ix61, Mp.W_ix62, Mp.W_ix63, Mp.W_ix64, Mp.W_ix65, Mp.W_ix21, Mp.W_ix30, Mp.W_ix31, Mp.W_ix32, Mp.slD, Mp.toP, Mp.negD, Mp.items, Mp.W_rngD, Mp.zipD, Mp.enumD, Mp.revD, Mp.W_lenL, Mp.W_lenT, Mp.W_lenC, Mp.W_intI, Mp.W_listL, Mp.W_listT, Mp.W_tupL, Mp.W_tupT, Mp.W_min2, Mp.W_max2, Mp.W_absI, Mp.W_sortL, Mp.bmD, Mp.rcv, Mp.setTg, Mp.setAll, Mp.locD_nil, Mp.muAt_nil, Mp.W_muApp, Mp.W_muDct, Mp.W_att_cons, Mp.WO_setFc, Mp.fputF, Mp.fputV, ↓reduceIte, Nat.reduceEqDiff, Mp.W_isi_non_int, Mp.W_isi_non_bool, Mp.W_isi_non_str, Mp.W_isi_non_list, Mp.W_isi_non_tuple, Mp.W_isi_bl_int, Mp.W_isi_bl_bool, Mp.W_isi_bl_str, Mp.W_isi_bl_list, Mp.W_isi_bl_tuple, Mp.W_isi_int_int, Mp.W_isi_int_bool, Mp.W_isi_int_str, Mp.W_isi_int_list, Mp.W_isi_int_tuple, Mp.W_isi_str_int, Mp.W_isi_str_bool, Mp.W_isi_str_str, Mp.W_isi_str_list, Mp.W_isi_str_tuple, Mp.W_isi_tup_int, Mp.W_isi_tup_bool, Mp.W_isi_tup_str, Mp.W_isi_tup_list, Mp.W_isi_tup_tuple, Mp.W_isi_lst_int, Mp.W_isi_lst_bool, Mp.W_isi_lst_str, Mp.W_isi_lst_list, Mp.W_isi_lst_tuple, Mp.W_isi_ins_int, Mp.W_isi_ins_bool, Mp.W_isi_ins_str, Mp.W_isi_ins_list, Mp.W_isi_ins_tuple, Mp.isCls_ins, Mp.ite_bl, Mp.ite_bf, Mp.ite_pp, List.length_map, decide_eq_true_eq, beq_iff_eq, beq_eq_false_iff_ne, decide_eq_false_iff_not, Option.some.injEq, Mp.D.lst.injEq, exists_eq_left', exists_eq_left, Bool.not_eq_true', Bool.not_eq_false', beq_self_eq_true, Bool.not_true, Bool.not_false, reduceCtorEq, false_implies, not_true_eq_false, not_false_eq_true, implies_true, true_and, and_true, true_implies, forall_const, if_true, if_false])
local macro_rules | `(tactic| walk_at "br") => `(tactic| (repeat' (first | apply And.intro | intro _)) <;> (first | omega | exact Mp.inB_nat (by omega) (by omega) | skip))
abbrev sBadNet : D := .str [66, 97, 100, 78, 101, 116]
abbrev sCross : D := .str [82, 111, 97, 100, 115, 67, 114, 111, 115, 115]
def tellS : Option (Nat × Option Nat) → D
  | none => .non
  | some (k, none) => .tup [sBadNet, .int k]
  | some (k, some j) => .tup [sCross, .int j, .int k]
theorem rowI_mono {w : List Nat} {x y : Int} (h0 : 0 ≤ x) (h : x ≤ y) (h1 : y < (w.sum : Nat)) : rowI w x ≤ rowI w y := by
  have := rowOf_mono (w := w) (p := x.toNat) (q := y.toNat) (by omega) (by omega)
  unfold rowI
  omega
theorem cross_iff {w : List Nat} {o r : RI} (ho : VI w o) (hr : VI w r) : CI o r ↔ rowI w o.1 = rowI w r.1 ∧ (o.1 - r.1) * (o.2.1 - r.2.1) < 0 := by
  obtain ⟨⟨a1, a2, a3, a4⟩, a5⟩ := ho
  obtain ⟨⟨b1, b2, b3, b4⟩, b5⟩ := hr
  unfold CI
  by_cases h : o.1 < r.1
  · rw [if_pos h]
    constructor
    · intro q
      have m1 := rowI_mono (w := w) a1 (by omega : o.1 ≤ r.1) b2
      have m2 := rowI_mono (w := w) b3 (by omega : r.2.1 ≤ o.2.1) a4
      exact ⟨by omega, Int.mul_neg_of_neg_of_pos (by omega) (by omega)⟩
    · rintro ⟨_, q⟩
      refine Classical.byContradiction fun z => ?_
      have := Int.mul_nonneg_of_nonpos_of_nonpos (show o.1 - r.1 ≤ 0 by omega) (show o.2.1 - r.2.1 ≤ 0 by omega)
      omega
  · rw [if_neg h]
    constructor
    · rintro ⟨q1, q2⟩
      have m1 := rowI_mono (w := w) b1 (by omega : r.1 ≤ o.1) a2
      have m2 := rowI_mono (w := w) a3 (by omega : o.2.1 ≤ r.2.1) b4
      exact ⟨by omega, Int.mul_neg_of_pos_of_neg (by omega) (by omega)⟩
    · rintro ⟨_, q⟩
      by_cases e : o.1 = r.1
      · rw [e] at q
        simp at q
      · refine ⟨by omega, Classical.byContradiction fun z => ?_⟩
        have := Int.mul_nonneg (show 0 ≤ o.1 - r.1 by omega) (show 0 ≤ o.2.1 - r.2.1 by omega)
        omega
theorem vAt_ok {w : List Nat} {l : List RI} {k : Nat} (hk : k < l.length) (h : vAt w l k = none) : VI w l[k] ∧ sI l[k] ∉ (l.take k).map sI ∧ fcI (l.take k) l[k] = none := by
  by_cases q : VI w l[k] ∧ sI l[k] ∉ (l.take k).map sI
  · rw [vAt_crs hk q] at h
    refine ⟨q.1, q.2, ?_⟩
    cases e : fcI (l.take k) l[k] with
    | none => rfl
    | some j => rw [e] at h; cases h
  · rw [vAt_bad hk q] at h
    cases h
theorem fc_first {l : List RI} {r : RI} {k j : Nat} (hk : k ≤ l.length) (hj : j < k) (hn : ∀ i < j, ¬ CI (l.getD i (0, 0, 0)) r) (h : CI (l.getD j (0, 0, 0)) r) : fcI (l.take k) r = some j := by
  have gd : ∀ i < k, (l.take k).getD i (0, 0, 0) = l.getD i (0, 0, 0) := fun i hi => by
    rw [List.getD_eq_getElem?_getD, List.getD_eq_getElem?_getD, List.getElem?_take_of_lt hi]
  unfold fcI
  refine find_first (fun i hi => ?_) (by simp; omega) ?_
  · rw [gd i (by omega)]
    exact decide_eq_false (hn i hi)
  · rw [gd j hj]
    exact decide_eq_true h
theorem fc_none {l : List RI} {r : RI} {k : Nat} (hk : k ≤ l.length) (hn : ∀ i < k, ¬ CI (l.getD i (0, 0, 0)) r) : fcI (l.take k) r = none := by
  have gd : ∀ i < k, (l.take k).getD i (0, 0, 0) = l.getD i (0, 0, 0) := fun i hi => by
    rw [List.getD_eq_getElem?_getD, List.getD_eq_getElem?_getD, List.getElem?_take_of_lt hi]
  unfold fcI
  refine find_none (fun i hi => ?_)
  have hi : i < k := by simp at hi; omega
  rw [gd i hi]
  exact decide_eq_false (hn i hi)
theorem scan_ok (w : List Nat) (ls : List RI) (hw : WOK w) (hl : ls.length ≤ 100000) : run F__law_scan [.lst ((rows w).map dN), .lst (ls.map dRI)] = .ok (tellS (verd w ls)) := by
  have h2 := hw.sum
  have hrl := rows_len (w := w)
  unfold F__law_scan
  refine RnE (by rfl) ?_
  walk_at "mp"
  refine ⟨by omega, WO_forRng (fun k e => (∀ j < k, vAt w ls j = none) ∧ ∃ x y z u : D, e = [.lst ((rows w).map dN), .lst (ls.map dRI), x, y, z, u]) ⟨fun j hj => by omega, _, _, _, _, rfl⟩ ?_ ?_⟩
  · rintro k hk _ ⟨hb, x, y, z0, u, rfl⟩
    have hk' : k < ls.length := by omega
    have z : (0 : Int) + (k : Int) = (k : Int) := by omega
    have e' : getA ls (k : Int) = ls[k] := getA_nat k rfl hk'
    have hgd : ls.getD k (0, 0, 0) = ls[k] := by rw [List.getD_eq_getElem?_getD, List.getElem?_eq_getElem hk', Option.getD_some]
    rw [z]
    have bad : ¬ (VI w ls[k] ∧ sI ls[k] ∉ (ls.take k).map sI) → tellS (verd w ls) = .tup [sBadNet, .int k] := fun q => by
      rw [verd_at hb hk' (vAt_bad hk' q)]
      rfl
    unfold F__law_scan_b3
    refine WO_split 3 (fun e => VI w ls[k] ∧ ∃ z u : D, e = [.lst ((rows w).map dN), .lst (ls.map dRI), .int k, dRI ls[k], z, u]) ?_ ?_
    · walk_at "mp"
      rw [e']
      have main : ¬ ls[k].1 < 0 → ¬ ((rows w).length : Int) ≤ ls[k].1 → ¬ ls[k].2.1 < 0 → ¬ ((rows w).length : Int) ≤ ls[k].2.1 → inB (rows w).length ls[k].2.1 ∧ inB (rows w).length ls[k].1 ∧ (((getA (rows w) ls[k].2.1 : Nat) : Int) ≠ ((getA (rows w) ls[k].1 : Nat) : Int) + 1 → tellS (verd w ls) = .tup [sBadNet, .int k]) ∧ (¬ ((getA (rows w) ls[k].2.1 : Nat) : Int) ≠ ((getA (rows w) ls[k].1 : Nat) : Int) + 1 → VI w ls[k] ∧ ∃ z u1 : D, [D.lst ((rows w).map dN), .lst (ls.map dRI), .int k, dRI ls[k], z0, u] = [D.lst ((rows w).map dN), .lst (ls.map dRI), .int k, dRI ls[k], z, u1]) := fun a b c d => by
        refine ⟨inB_nat (by omega) (by omega), inB_nat (by omega) (by omega), fun q => bad fun q2 => ?_, fun q => ⟨⟨⟨by omega, by omega, by omega, by omega⟩, ?_⟩, _, _, rfl⟩⟩
        · rw [rowsB (by omega) (by omega), rowsB (by omega) (by omega)] at q
          exact q q2.1.2
        · rw [rowsB (by omega) (by omega), rowsB (by omega) (by omega)] at q
          omega
      refine ⟨inB_nat (by omega) (by omega), fun q1 => ⟨fun q2 => ⟨fun q3 => ⟨fun q4 => bad fun z => by have := z.1.1; omega, fun q4 => main q1 q2 q3 q4⟩, fun q3 => ⟨fun q4 => bad fun z => by have := z.1.1; omega, fun q4 => (q3 q4).elim⟩⟩, fun q2 => ⟨fun q4 => bad fun z => by have := z.1.1; omega, fun q4 => (q2 q4).elim⟩⟩, fun q1 => ⟨fun q4 => bad fun z => by have := z.1.1; omega, fun q4 => (q1 q4).elim⟩⟩
    rintro _ ⟨hv, z1, u1, rfl⟩
    have hlk : ∀ j < k, ∃ h : j < ls.length, getA ls (0 + (j : Int)) = ls[j] ∧ ls.getD j (0, 0, 0) = ls[j] := fun j hj => ⟨by omega, getA_nat j (by omega) (by omega), by rw [List.getD_eq_getElem?_getD, List.getElem?_eq_getElem (by omega), Option.getD_some]⟩
    refine WO_split 1 (fun e => sI ls[k] ∉ (ls.take k).map sI ∧ ∃ z u : D, e = [.lst ((rows w).map dN), .lst (ls.map dRI), .int k, dRI ls[k], z, u]) ?_ ?_
    · walk_at "mp"
      refine ⟨by omega, WO_forRng (fun j e => (∀ i < j, sI (ls.getD i (0, 0, 0)) ≠ sI ls[k]) ∧ ∃ z u : D, e = [.lst ((rows w).map dN), .lst (ls.map dRI), .int k, dRI ls[k], z, u]) ⟨fun i hi => by omega, _, _, rfl⟩ ?_ ?_⟩
      · rintro j hj _ ⟨hd, z2, u2, rfl⟩
        obtain ⟨hjl, ej, gj⟩ := hlk j (by omega)
        unfold F__law_scan_b1
        walk_at "mp"
        rw [ej]
        have hin : ls[j] ∈ ls.take k := List.mem_iff_getElem.mpr ⟨j, by simp; omega, by rw [List.getElem_take]⟩
        have nxt : sI ls[j] ≠ sI ls[k] → ∀ i < j + 1, sI (ls.getD i (0, 0, 0)) ≠ sI ls[k] := fun q i hi => by
          by_cases e : i = j
          · subst e; rw [gj]; exact q
          · exact hd i (by omega)
        refine ⟨inB_nat (by omega) (by omega), fun q1 => ⟨inB_nat (by omega) (by omega), fun q2 => bad fun q => q.2 (List.mem_map.mpr ⟨_, hin, by rw [sI, q1, q2]⟩), fun q2 => ⟨nxt fun e => q2 (Prod.mk.inj e).2, _, _, rfl⟩⟩, fun q1 => ⟨fun z => (q1 z).elim, fun _ => ⟨nxt fun e => q1 (Prod.mk.inj e).1, _, _, rfl⟩⟩⟩
      · rintro _ ⟨hd, z2, u2, rfl⟩
        walk_at "mp"
        refine ⟨fun hm => ?_, _, _, rfl⟩
        obtain ⟨q, hq, e⟩ := List.mem_map.mp hm
        obtain ⟨i, hi, rfl⟩ := List.mem_iff_getElem.mp hq
        have hi' : i < k := by simp at hi; omega
        rw [List.getElem_take] at e
        have := hd i (by omega)
        rw [(hlk i hi').2.2] at this
        exact this e
    rintro _ ⟨hdup, z2, u2, rfl⟩
    have hcr := vAt_crs hk' ⟨hv, hdup⟩
    have vj : ∀ j < k, VI w (ls.getD j (0, 0, 0)) := fun j hj => by
      obtain ⟨hjl, _, gj⟩ := hlk j hj
      rw [gj]
      exact (vAt_ok hjl (hb j hj)).1
    walk_at "mp"
    refine ⟨by omega, WO_forRng (fun j e => (∀ i < j, ¬ CI (ls.getD i (0, 0, 0)) ls[k]) ∧ ∃ z u : D, e = [.lst ((rows w).map dN), .lst (ls.map dRI), .int k, dRI ls[k], z, u]) ⟨fun i hi => by omega, _, _, rfl⟩ ?_ ?_⟩
    · rintro j hj _ ⟨hd, z3, u3, rfl⟩
      obtain ⟨hjl, ej, gj⟩ := hlk j (by omega)
      have vo := vj j (by omega)
      have ci := cross_iff vo hv
      have fin : CI (ls.getD j (0, 0, 0)) ls[k] → tellS (verd w ls) = .tup [sCross, .int (0 + (j : Int)), .int k] := fun q => by
        rw [verd_at hb hk' (v := some j) (by rw [hcr, fc_first (by omega) (by omega) hd q]; rfl), show (0 : Int) + (j : Int) = j by omega]
        rfl
      have nxt : ¬ CI (ls.getD j (0, 0, 0)) ls[k] → ∀ i < j + 1, ¬ CI (ls.getD i (0, 0, 0)) ls[k] := fun q i hi => by
        by_cases e : i = j
        · subst e; exact q
        · exact hd i (by omega)
      rw [gj] at vo ci fin nxt
      obtain ⟨⟨a1, a2, a3, a4⟩, _⟩ := id vo
      obtain ⟨⟨b1, b2, b3, b4⟩, _⟩ := id hv
      unfold F__law_scan_b2
      walk_at "mp"
      rw [ej, rowsB a1 a2, rowsB b1 b2]
      refine ⟨inB_nat (by omega) (by omega), inB_nat (by omega) (by omega), inB_nat (by omega) (by omega), fun q1 => ⟨mulOk_l (by omega) (by omega), fun q2 => fin (ci.mpr ⟨q1, q2⟩), fun q2 => ⟨nxt fun q => q2 (ci.mp q).2, _, _, rfl⟩⟩, fun q1 => ⟨fun z => (q1 z).elim, fun _ => ⟨nxt fun q => q1 (ci.mp q).1, _, _, rfl⟩⟩⟩
    · rintro _ ⟨hd, z3, u3, rfl⟩
      walk_at "mp"
      refine ⟨fun j hj => ?_, _, _, _, _, rfl⟩
      by_cases e : j = k
      · subst e
        rw [hcr, fc_none (by omega) (fun i hi => hd i (by omega))]
        rfl
      · exact hb j (by omega)
  · rintro _ ⟨hb, x, y, z, u, rfl⟩
    rw [verd_none (fun j hj => hb j (by omega))]
    walk_at "mp"
    rfl
end MpL

/-! PlNetX: nets of any roads, of any widths -/
namespace MpL
open Mp MpP
local macro_rules | `(tactic| walk_at "mp") => `(tactic| try simp -implicitDefEqProofs -dsimp only [List.take_succ_cons, List.take_zero, List.drop_succ_cons, List.drop_zero, Mp.WO_nil, Mp.wn_nx, Mp.wn_rt, Mp.wn_br, Mp.wn_ct, Mp.wn_ex, Mp.wl_nx, Mp.wl_rt, Mp.wl_br, Mp.wl_ct, Mp.wl_ex, Mp.WO_cons, Mp.WO_set, Mp.WO_sets, Mp.WO_app, Mp.WO_put, Mp.WO_exp, Mp.WO_ifs, Mp.WO_ret, Mp.WO_retN, Mp.WO_pas, Mp.WO_brk, Mp.WO_cnt, Mp.WO_wall, Mp.WO_rse, Mp.WO_apop, Mp.W_xat, Mp.W_xis, Mp.W_rvs, Mp.W_xatI, Mp.W_xisI, Mp.W_rvsL, Mp.putG_nil, Mp.putOk_lst, Mp.putOk_dF, Mp.putOk_tup, Mp.fmOk, and_false, false_and, Mp.WO_for, Mp.WO_forF1, Mp.WO_forF2, Mp.WO_forF3, Mp.WO_whl, Mp.W_nm, Mp.W_nma, Mp.W_alj, Mp.WO_ali, Mp.W_aljD, Mp.W_nmaD, Mp.W_cst, Mp.W_bin, Mp.W_neg, Mp.W_nt, Mp.W_bop, Mp.W_evb1, Mp.W_evb, Mp.W_cmp, Mp.W_isn, Mp.W_ife, Mp.W_chn, Mp.W_tupE, Mp.W_lstE, Mp.W_dctE, Mp.W_ix, Mp.W_sl, Mp.W_att, Mp.W_call, Mp.W_slf, Mp.W_meth, Mp.W_mk, Mp.W_blt, Mp.W_isi, Mp.W_bm, Mp.W_rng, Mp.W_zipE, Mp.W_enumE, Mp.W_revE, Mp.W_lc, Mp.W_dc, Mp.W_evs0, Mp.W_evs, Mp.W_evc0, Mp.W_evc, Mp.W_ok, Mp.W_exc, Mp.W_bad, Mp.W_bind, Mp.W_nox, Mp.W_of, Mp.W_need, Mp.W_gS, Mp.W_g_un, Mp.W_g_non, Mp.W_g_bl, Mp.W_g_int, Mp.W_g_str, Mp.W_g_tup, Mp.W_g_lst, Mp.W_g_dct, Mp.W_g_ins, Mp.W_g_scr, List.getElem?_cons_zero, List.getElem?_cons_succ, List.set_cons_zero, List.set_cons_succ, List.cons_append, List.nil_append, List.replicate_succ, List.replicate_zero, Nat.reduceAdd, Nat.reduceSub, Mp.W_opAdd, Mp.W_opSub, Mp.W_opMul, Mp.W_opDiv, Mp.W_opMod, Mp.W_opPow, Mp.W_opCat, Mp.W_opCatT, Mp.W_opRep, List.length_cons, List.length_nil, Mp.W_eqRI, Mp.W_lcF1, Mp.W_lcFc, Mp.cmpD, Mp.truD, Mp.isNon, Mp.W_ixL, Mp.W_ixT, Mp.W_ixS, Mp.W_ix20, Mp.W_ix60, Mp.W_ix61, Mp.W_ix62, Mp.W_ix63, Mp.W_ix64, Mp.W_ix65, Mp.W_ix21, Mp.W_ix30, Mp.W_ix31, Mp.W_ix32, Mp.slD, Mp.toP, Mp.negD, Mp.items, Mp.W_rngD, Mp.zipD, Mp.enumD, Mp.revD, Mp.W_lenL, Mp.W_lenT, Mp.W_lenC, Mp.W_intI, Mp.W_listL, Mp.W_listT, Mp.W_tupL, Mp.W_tupT, Mp.W_min2, Mp.W_max2, Mp.W_absI, Mp.W_sortL, Mp.bmD, Mp.rcv, Mp.setTg, Mp.setAll, Mp.locD_nil, Mp.muAt_nil, Mp.W_muApp, Mp.W_muDct, Mp.W_att_cons, Mp.WO_setFc, Mp.fputF, Mp.fputV, ↓reduceIte, Nat.reduceEqDiff, Mp.W_isi_non_int, Mp.W_isi_non_bool, Mp.W_isi_non_str, Mp.W_isi_non_list, Mp.W_isi_non_tuple, Mp.W_isi_bl_int, Mp.W_isi_bl_bool, Mp.W_isi_bl_str, Mp.W_isi_bl_list, Mp.W_isi_bl_tuple, Mp.W_isi_int_int, Mp.W_isi_int_bool, Mp.W_isi_int_str, Mp.W_isi_int_list, Mp.W_isi_int_tuple, Mp.W_isi_str_int, Mp.W_isi_str_bool, Mp.W_isi_str_str, Mp.W_isi_str_list, Mp.W_isi_str_tuple, Mp.W_isi_tup_int, Mp.W_isi_tup_bool, Mp.W_isi_tup_str, Mp.W_isi_tup_list, Mp.W_isi_tup_tuple, Mp.W_isi_lst_int, Mp.W_isi_lst_bool, Mp.W_isi_lst_str, Mp.W_isi_lst_list, Mp.W_isi_lst_tuple, Mp.W_isi_ins_int, Mp.W_isi_ins_bool, Mp.W_isi_ins_str, Mp.W_isi_ins_list, Mp.W_isi_ins_tuple, Mp.isCls_ins, Mp.ite_bl, Mp.ite_bf, Mp.ite_pp, List.length_map, decide_eq_true_eq, beq_iff_eq, beq_eq_false_iff_ne, decide_eq_false_iff_not, Option.some.injEq, Mp.D.lst.injEq, exists_eq_left', exists_eq_left, Bool.not_eq_true', Bool.not_eq_false', beq_self_eq_true, Bool.not_true, Bool.not_false, reduceCtorEq, false_implies, not_true_eq_false, not_false_eq_true, implies_true, true_and, and_true, true_implies, forall_const, if_true, if_false])
local macro_rules | `(tactic| walk_at "br") => `(tactic| (repeat' (first | apply And.intro | intro _)) <;> (first | omega | exact Mp.inB_nat (by omega) (by omega) | skip))
abbrev iR (r : Rd) : RI := ((r.1 : Int), (r.2.1 : Int), r.2.2)
theorem Ahd.tr {a b c : Rd} (h : Ahd a b) (k : Ahd b c) : Ahd a c := ⟨Nat.le_trans h.1 k.1, Nat.le_trans h.2.1 k.2.1, by have := h.2.2; have := k.2.2; omega⟩
theorem ins_ex (r : Rd) : ∀ l : List Rd, l.Pairwise Ahd → (∀ q ∈ l, Ahd r q ∨ Ahd q r) → ∃ l', (r :: l).Perm l' ∧ l'.Pairwise Ahd
  | [], _, _ => ⟨[r], List.Perm.refl _, by simp⟩
  | q :: l, hp, h => by
    obtain ⟨h1, h2⟩ := List.pairwise_cons.mp hp
    rcases h q List.mem_cons_self with z | z
    · refine ⟨r :: q :: l, List.Perm.refl _, List.pairwise_cons.mpr ⟨fun x hx => ?_, hp⟩⟩
      rcases List.mem_cons.mp hx with rfl | hx
      · exact z
      · exact z.tr (h1 x hx)
    · obtain ⟨l', p, w⟩ := ins_ex r l h2 (fun x hx => h x (List.mem_cons_of_mem _ hx))
      refine ⟨q :: l', (List.Perm.swap q r l).trans (p.cons q), List.pairwise_cons.mpr ⟨fun x hx => ?_, w⟩⟩
      rcases List.mem_cons.mp (p.mem_iff.mpr hx) with rfl | hx
      · exact z
      · exact h1 x hx
theorem sort_ex : ∀ l : List Rd, l.Pairwise (fun r q => Ahd r q ∨ Ahd q r) → ∃ l', l.Perm l' ∧ l'.Pairwise Ahd
  | [], _ => ⟨[], List.Perm.refl _, .nil⟩
  | r :: l, hp => by
    obtain ⟨h1, h2⟩ := List.pairwise_cons.mp hp
    obtain ⟨l', p, w⟩ := sort_ex l h2
    obtain ⟨l2, p2, w2⟩ := ins_ex r l' w (fun q hq => h1 q (p.mem_iff.mpr hq))
    exact ⟨l2, (p.cons r).trans p2, w2⟩
/-- nothing is wrong: a net -/
theorem verd_net {w : List Nat} {l : List RI} (hw : WOK w) (h : ∀ k < l.length, vAt w l k = none) : ∃ ls rs : List Rd, l = ls.map iR ∧ ls.Perm rs ∧ NOK w rs := by
  have ok := fun k hk => vAt_ok hk (h k hk)
  have e : l = (l.map fun r : RI => ((r.1.toNat, r.2.1.toNat, r.2.2) : Rd)).map iR := by
    rw [List.map_map]
    refine List.ext_getElem (by simp) fun k h1 h2 => ?_
    obtain ⟨⟨⟨a1, a2, a3, a4⟩, _⟩, _⟩ := ok k h1
    rw [List.getElem_map]
    show l[k] = (((l[k].1.toNat : Nat) : Int), ((l[k].2.1.toNat : Nat) : Int), l[k].2.2)
    rw [Int.toNat_of_nonneg a1, Int.toNat_of_nonneg a3]
  generalize hls : (l.map fun r : RI => ((r.1.toNat, r.2.1.toNat, r.2.2) : Rd)) = ls at e
  subst e
  have okR : ∀ k (hk : k < ls.length), VI w (iR ls[k]) ∧ (∀ j, j < k → ∀ hj : j < ls.length, se ls[j] ≠ se ls[k]) ∧ ∀ j, j < k → ∀ hj : j < ls.length, ¬ CI (iR ls[j]) (iR ls[k]) := fun k hk => by
    obtain ⟨a, b, c⟩ := ok k (by simpa using hk)
    simp only [List.getElem_map] at a b c
    refine ⟨a, fun j hj hjl e => b ?_, fun j hj hjl q => ?_⟩
    · refine List.mem_map.mpr ⟨iR ls[j], List.mem_iff_getElem.mpr ⟨j, by simp; omega, by rw [List.getElem_take, List.getElem_map]⟩, ?_⟩
      have e1 := (Prod.mk.inj e).1
      have e2 := (Prod.mk.inj e).2
      simp [sI, iR, e1, e2]
    · unfold fcI at c
      rw [List.find?_eq_none] at c
      have := c j (List.mem_range.mpr (by simp; omega))
      rw [List.getD_eq_getElem?_getD, List.getElem?_take_of_lt hj, List.getElem?_eq_getElem (by simpa using hjl), Option.getD_some, List.getElem_map] at this
      simp [q] at this
  have pw : ls.Pairwise (fun r q => Ahd r q ∨ Ahd q r) := by
    rw [List.pairwise_iff_getElem]
    intro i j hi hj hij
    have d := (okR j hj).2.1 i hij hi
    have c := (okR j hj).2.2 i hij hi
    unfold CI at c
    have d' : ¬ (ls[i].1 = ls[j].1 ∧ ls[i].2.1 = ls[j].2.1) := fun z => d (by show (_, _) = (_, _); rw [z.1, z.2])
    unfold Ahd
    simp only [iR] at c
    split at c <;> omega
  obtain ⟨rs, hp, ho⟩ := sort_ex ls pw
  refine ⟨ls, rs, rfl, hp, hw, fun r hr => ?_, ho⟩
  obtain ⟨k, hk, rfl⟩ := List.mem_iff_getElem.mp (hp.mem_iff.mpr hr)
  obtain ⟨⟨a1, a2, a3, a4⟩, a5⟩ := (okR k hk).1
  simp only [iR, rowI, Int.toNat_natCast] at a1 a2 a3 a4 a5
  obtain ⟨s1, s2, s3⟩ := rowOf_spec (w := w) (p := ls[k].1) (by omega)
  obtain ⟨t1, t2, t3⟩ := rowOf_spec (w := w) (p := ls[k].2.1) (by omega)
  have e : rowOf w ls[k].2.1 = rowOf w ls[k].1 + 1 := by omega
  rw [e] at t1 t2 t3
  exact ⟨rowOf w ls[k].1, t1, s2, s3, t2, t3⟩
theorem verd_inv {w : List Nat} {l : List RI} (h : verd w l = none) : ∀ k < l.length, vAt w l k = none := fun k hk => by
  unfold verd at h
  rw [List.findSome?_eq_none_iff] at h
  have := h k (List.mem_range.mpr hk)
  cases e : vAt w l k with
  | none => rfl
  | some v => rw [e] at this; cases this
/-! ### Net.__init__ -/
theorem RnXI {np ns rt : Nat} {md : List Nat} {body : List Mp.S} {args : List D} {x : D} (hl : args.length = np)
    (h : WO (execs body (fun _ => .bad) (args ++ List.replicate (ns - np) .un)) ⟨fun _ => False, fun _ => False, fun _ => False, fun _ => False, fun d => d = x⟩) :
    run (.mk np ns md rt 0 true body) args = .exc x := by
  have q : W (run (.mk np ns md rt 0 true body) args) (fun _ => False) (fun d => d = x) := by
    rw [W_runI hl]
    exact WO.mono h (fun _ z => z.elim) (fun _ z => z) (fun _ z => z) (fun _ z => z) (fun _ z => z)
  cases e : run (.mk np ns md rt 0 true body) args with
  | ok d => rw [e] at q; exact (show False from q).elim
  | exc d => rw [e] at q; obtain rfl : d = x := q; rfl
  | bad => rw [e] at q; exact (show False from q).elim
theorem check_exc {w : List Nat} {ls : List RI} (hw : WOK w) (hl : ls.length ≤ 100000) {k : Nat} {v : Option Nat} (h : verd w ls = some (k, v)) : run F_check_roads [.tup ((starts w).map dN), .tup (ls.map dRI)] = .exc (errD k v) := by
  have q := checkI w ls hw hl
  cases e : run F_check_roads [.tup ((starts w).map dN), .tup (ls.map dRI)] with
  | ok d => rw [e] at q; rw [h] at q; cases (show none = _ ∧ _ from ⟨q.1.symm, q.2⟩).1
  | exc d =>
    rw [e] at q
    obtain ⟨k2, v2, e1, e2⟩ := (show ∃ k v, verd w ls = some (k, v) ∧ d = errD k v from q)
    rw [h] at e1
    cases e1
    rw [e2]
  | bad => rw [e] at q; exact (show False from q).elim
theorem net_head {ws : List D} {ls : List RI} (t u : Bool) (hl : ls.length ≤ 1000) {P : Po} {M : List D → Prop} (h : M [.ins 0 [] [], sq t ws, sq u (ls.map dRI), .tup ws, .tup (ls.map dRI), .un, .un]) :
    WO (execs [S.set 3 (E.blt Blt.tuple [E.nm 1]), S.set 4 (E.blt Blt.tuple [E.lc F_Net___init___e1 [6] (E.nm 2) []])] (fun _ => R.bad) [.ins 0 [] [], sq t ws, sq u (ls.map dRI), .un, .un, .un, .un]) (wn P M) := by
  have e1 : ∀ env : List D, ∀ x ∈ ls, lcF F_Net___init___e1 [6] [] (fun _ => .bad) ([.ins 0 [] [], sq t ws, sq u (ls.map dRI), .tup ws, .un, .un, .un]) (dRI x) = .ok (some (dRI x)) := fun env x _ => lcF_eq (by unfold F_Net___init___e1; walk_at "mp")
  cases t <;> cases u <;> simp only [sq, if_true, if_false, Bool.false_eq_true] at e1 h ⊢ <;> walk_at "mp" <;> refine W_lcGo (h := dRI) (e1 []) ?_ <;> walk_at "mp" <;> exact ⟨by simp only [LIM]; omega, h⟩
theorem net_exc {w : List Nat} {ls : List RI} (t u : Bool) (hw : WOK w) (hl : ls.length ≤ 1000) {k : Nat} {v : Option Nat} (h : verd w ls = some (k, v)) : run F_Net___init__ [.ins 0 [] [], sq t (w.map dN), sq u (ls.map dRI)] = .exc (errD k v) := by
  have h1 := hw.l1
  have h2 := hw.l2
  unfold F_Net___init__
  refine RnXI (by rfl) ?_
  refine WO_split 2 (fun e => e = [.ins 0 [] [], sq t (w.map dN), sq u (ls.map dRI), .tup (w.map dN), .tup (ls.map dRI), .un, .un]) (net_head t u hl rfl) ?_
  rintro _ rfl
  generalize sq t (w.map dN) = A
  generalize sq u (ls.map dRI) = B
  have hs := starts_ok w true (by omega)
  simp only [sq, if_true] at hs
  have hc := check_exc hw (by omega) h
  refine WO_split 2 (fun e => e = [.ins 0 [] [], A, B, .tup (w.map dN), .tup (ls.map dRI), .tup ((starts w).map dN), .un]) ?_ ?_
  · walk_at "mp"
    refine ⟨fun _ => W_min h1 hw.pos fun m hm => ?_, fun z => by omega⟩
    walk_at "mp"
    refine ⟨fun z => by omega, fun _ => W.by hs ?_⟩
    walk_at "mp"
  rintro _ rfl
  simp only [List.drop_succ_cons, List.drop_zero]
  rw [WO_cons, WO_exp]
  walk_at "mp"
  exact W.byX hc rfl
theorem toIs_intsX {l : List Int} : toIs (l.map .int) = some l := by
  induction l with
  | nil => rfl
  | cons x l ih => simp [toIs, toI, ih]
theorem minI_le : ∀ {l : List Int} {a : Int}, minI a l ≤ a ∧ ∀ x ∈ l, minI a l ≤ x
  | [], a => ⟨Int.le_refl _, fun x hx => by cases hx⟩
  | y :: l, a => by
    have ih := minI_le (l := l) (a := if y < a then y else a)
    have e : minI a (y :: l) = minI (if y < a then y else a) l := rfl
    rw [e]
    refine ⟨by have := ih.1; split at this <;> omega, fun x hx => ?_⟩
    rcases List.mem_cons.mp hx with rfl | hx
    · have := ih.1
      split at this <;> omega
    · exact ih.2 x hx
theorem net_spoilt {ws : List Int} {ls : List RI} (t u : Bool) (hl : ls.length ≤ 1000) (hw : ws = [] ∨ ∃ x ∈ ws, x < 1) : run F_Net___init__ [.ins 0 [] [], sq t (ws.map .int), sq u (ls.map dRI)] = .exc (.ins X_BadNet [0] [.int (-1)]) := by
  unfold F_Net___init__
  refine RnXI (by rfl) ?_
  refine WO_split 2 (fun e => e = [.ins 0 [] [], sq t (ws.map .int), sq u (ls.map dRI), .tup (ws.map .int), .tup (ls.map dRI), .un, .un]) (net_head t u hl rfl) ?_
  rintro _ rfl
  generalize sq t (ws.map D.int) = A
  generalize sq u (ls.map dRI) = B
  simp only [List.drop_succ_cons, List.drop_zero]
  rw [WO_cons]
  cases ws with
  | nil =>
    walk_at "mp"
    refine ⟨fun z => by simp at z, fun _ => ⟨fun _ => ?_, fun z => by simp at z⟩⟩
    decide
  | cons a ws =>
    have hm : minI a ws < 1 := by
      rcases hw with hw | ⟨x, hx, h1⟩
      · cases hw
      · have := minI_le (l := ws) (a := a)
        rcases List.mem_cons.mp hx with rfl | hx
        · have := this.1; omega
        · have := this.2 x hx; omega
    have em : bltD .min [.tup ((a :: ws).map .int)] = .ok (.int (minI a ws)) := by
      show (match toIs ((a :: ws).map .int) with
        | some (n :: ns) => R.ok (D.int (minI n ns))
        | _ => .bad) = _
      rw [toIs_intsX]
    walk_at "mp"
    refine ⟨fun _ => ?_, fun z => by omega⟩
    rw [W_eq em]
    walk_at "mp"
    refine ⟨fun _ => ?_, fun z => (z hm).elim⟩
    decide
end MpL

/-! Pk02: nets refused -/
namespace MpL
open Mp MpP
local macro_rules | `(tactic| walk_at "mp") => `(tactic| try simp -implicitDefEqProofs -dsimp only [List.take_succ_cons, List.take_zero, List.drop_succ_cons, List.drop_zero, Mp.WO_nil, Mp.wn_nx, Mp.wn_rt, Mp.wn_br, Mp.wn_ct, Mp.wn_ex, Mp.wl_nx, Mp.wl_rt, Mp.wl_br, Mp.wl_ct, Mp.wl_ex, Mp.WO_cons, Mp.WO_set, Mp.WO_sets, Mp.WO_app, Mp.WO_put, Mp.WO_exp, Mp.WO_ifs, Mp.WO_ret, Mp.WO_retN, Mp.WO_pas, Mp.WO_brk, Mp.WO_cnt, Mp.WO_wall, Mp.WO_rse, Mp.WO_apop, Mp.W_xat, Mp.W_xis, Mp.W_rvs, Mp.W_xatI, Mp.W_xisI, Mp.W_rvsL, Mp.putG_nil, Mp.putOk_lst, Mp.putOk_dF, Mp.putOk_tup, Mp.fmOk, and_false, false_and, Mp.WO_for, Mp.WO_forF1, Mp.WO_forF2, Mp.WO_forF3, Mp.WO_whl, Mp.W_nm, Mp.W_nma, Mp.W_alj, Mp.WO_ali, Mp.W_aljD, Mp.W_nmaD, Mp.W_cst, Mp.W_bin, Mp.W_neg, Mp.W_nt, Mp.W_bop, Mp.W_evb1, Mp.W_evb, Mp.W_cmp, Mp.W_isn, Mp.W_ife, Mp.W_chn, Mp.W_tupE, Mp.W_lstE, Mp.W_dctE, Mp.W_ix, Mp.W_sl, Mp.W_att, Mp.W_call, Mp.W_slf, Mp.W_meth, Mp.W_mk, Mp.W_blt, Mp.W_isi, Mp.W_bm, Mp.W_rng, Mp.W_zipE, Mp.W_enumE, Mp.W_revE, Mp.W_lc, Mp.W_dc, Mp.W_evs0, Mp.W_evs, Mp.W_evc0, Mp.W_evc, Mp.W_ok, Mp.W_exc, Mp.W_bad, Mp.W_bind, Mp.W_nox, Mp.W_of, Mp.W_need, Mp.W_gS, Mp.W_g_un, Mp.W_g_non, Mp.W_g_bl, Mp.W_g_int, Mp.W_g_str, Mp.W_g_tup, Mp.W_g_lst, Mp.W_g_dct, Mp.W_g_ins, Mp.W_g_scr, List.getElem?_cons_zero, List.getElem?_cons_succ, List.set_cons_zero, List.set_cons_succ, List.cons_append, List.nil_append, List.replicate_succ, List.replicate_zero, Nat.reduceAdd, Nat.reduceSub, Mp.W_opAdd, Mp.W_opSub, Mp.W_opMul, Mp.W_opDiv, Mp.W_opMod, Mp.W_opPow, Mp.W_opCat, Mp.W_opCatT, Mp.W_opRep, List.length_cons, List.length_nil, Mp.W_eqRI, Mp.W_lcF1, Mp.W_lcFc, Mp.cmpD, Mp.truD, Mp.isNon, Mp.W_ixL, Mp.W_ixT, Mp.W_ixS, Mp.W_ix20, Mp.W_ix60, Mp.W_ix61, Mp.W_ix62, Mp.W_ix63, Mp.W_ix64, Mp.W_ix65, Mp.W_ix21, Mp.W_ix30, Mp.W_ix31, Mp.W_ix32, Mp.slD, Mp.toP, Mp.negD, Mp.items, Mp.W_rngD, Mp.zipD, Mp.enumD, Mp.revD, Mp.W_lenL, Mp.W_lenT, Mp.W_lenC, Mp.W_intI, Mp.W_listL, Mp.W_listT, Mp.W_tupL, Mp.W_tupT, Mp.W_min2, Mp.W_max2, Mp.W_absI, Mp.W_sortL, Mp.bmD, Mp.rcv, Mp.setTg, Mp.setAll, Mp.locD_nil, Mp.muAt_nil, Mp.W_muApp, Mp.W_muDct, Mp.W_att_cons, Mp.WO_setFc, Mp.fputF, Mp.fputV, ↓reduceIte, Nat.reduceEqDiff, Mp.W_isi_non_int, Mp.W_isi_non_bool, Mp.W_isi_non_str, Mp.W_isi_non_list, Mp.W_isi_non_tuple, Mp.W_isi_bl_int, Mp.W_isi_bl_bool, Mp.W_isi_bl_str, Mp.W_isi_bl_list, Mp.W_isi_bl_tuple, Mp.W_isi_int_int, Mp.W_isi_int_bool, Mp.W_isi_int_str, Mp.W_isi_int_list, Mp.W_isi_int_tuple, Mp.W_isi_str_int, Mp.W_isi_str_bool, Mp.W_isi_str_str, Mp.W_isi_str_list, Mp.W_isi_str_tuple, Mp.W_isi_tup_int, Mp.W_isi_tup_bool, Mp.W_isi_tup_str, Mp.W_isi_tup_list, Mp.W_isi_tup_tuple, Mp.W_isi_lst_int, Mp.W_isi_lst_bool, Mp.W_isi_lst_str, Mp.W_isi_lst_list, Mp.W_isi_lst_tuple, Mp.W_isi_ins_int, Mp.W_isi_ins_bool, Mp.W_isi_ins_str, Mp.W_isi_ins_list, Mp.W_isi_ins_tuple, Mp.isCls_ins, Mp.ite_bl, Mp.ite_bf, Mp.ite_pp, List.length_map, decide_eq_true_eq, beq_iff_eq, beq_eq_false_iff_ne, decide_eq_false_iff_not, Option.some.injEq, Mp.D.lst.injEq, exists_eq_left', exists_eq_left, Bool.not_eq_true', Bool.not_eq_false', beq_self_eq_true, Bool.not_true, Bool.not_false, reduceCtorEq, false_implies, not_true_eq_false, not_false_eq_true, implies_true, true_and, and_true, true_implies, forall_const, if_true, if_false])
local macro_rules | `(tactic| walk_at "br") => `(tactic| (repeat' (first | apply And.intro | intro _)) <;> (first | omega | exact Mp.inB_nat (by omega) (by omega) | skip))
local macro_rules | `(tactic| walk_at "mn") => `(tactic| try simp -implicitDefEqProofs -dsimp only [List.take_succ_cons, List.take_zero, List.drop_succ_cons, List.drop_zero, Mp.WO_nil, Mp.wn_nx, Mp.wn_rt, Mp.wn_br, Mp.wn_ct, Mp.wn_ex, Mp.wl_nx, Mp.wl_rt, Mp.wl_br, Mp.wl_ct, Mp.wl_ex, Mp.WO_cons, Mp.WO_set, Mp.WO_sets, Mp.WO_app, Mp.WO_put, Mp.WO_exp, Mp.WO_ifs, Mp.WO_ret, Mp.WO_retN, Mp.WO_pas, Mp.WO_brk, Mp.WO_cnt, Mp.WO_wall, Mp.WO_rse, Mp.WO_apop, Mp.W_xat, Mp.W_xis, Mp.W_rvs, Mp.W_xatI, Mp.W_xisI, Mp.W_rvsL, Mp.putG_nil, Mp.putOk_lst, Mp.putOk_dF, Mp.putOk_tup, Mp.fmOk, and_false, false_and, Mp.WO_for, Mp.WO_forF1, Mp.WO_forF2, Mp.WO_forF3, Mp.WO_whl, Mp.W_nm, MpL.W_g_net, MpL.isCls_net, MpL.W_net3, MpL.W_net4, MpL.W_net5, MpL.W_net6, MpL.W_net7, MpL.W_net8, MpL.W_net9, MpL.W_net10, MpL.W_net11, MpL.W_net12, Mp.W_nma, Mp.W_alj, Mp.WO_ali, Mp.W_aljD, Mp.W_nmaD, Mp.W_cst, Mp.W_bin, Mp.W_neg, Mp.W_nt, Mp.W_bop, Mp.W_evb1, Mp.W_evb, Mp.W_cmp, Mp.W_isn, Mp.W_ife, Mp.W_chn, Mp.W_tupE, Mp.W_lstE, Mp.W_dctE, Mp.W_ix, Mp.W_sl, Mp.W_att, Mp.W_call, Mp.W_slf, Mp.W_meth, Mp.W_mk, Mp.W_blt, Mp.W_isi, Mp.W_bm, Mp.W_rng, Mp.W_zipE, Mp.W_enumE, Mp.W_revE, Mp.W_lc, Mp.W_dc, Mp.W_evs0, Mp.W_evs, Mp.W_evc0, Mp.W_evc, Mp.W_ok, Mp.W_exc, Mp.W_bad, Mp.W_bind, Mp.W_nox, Mp.W_of, Mp.W_need, Mp.W_gS, Mp.W_g_un, Mp.W_g_non, Mp.W_g_bl, Mp.W_g_int, Mp.W_g_str, Mp.W_g_tup, Mp.W_g_lst, Mp.W_g_dct, Mp.W_g_ins, Mp.W_g_scr, List.getElem?_cons_zero, List.getElem?_cons_succ, List.set_cons_zero, List.set_cons_succ, List.cons_append, List.nil_append, List.replicate_succ, List.replicate_zero, Nat.reduceAdd, Nat.reduceSub, Mp.W_opAdd, Mp.W_opSub, Mp.W_opMul, Mp.W_opDiv, Mp.W_opMod, Mp.W_opPow, Mp.W_opCat, Mp.W_opCatT, Mp.W_opRep, List.length_cons, List.length_nil, Mp.W_eqRI, Mp.W_lcF1, Mp.W_lcFc, Mp.cmpD, Mp.truD, Mp.isNon, Mp.W_ixL, Mp.W_ixT, Mp.W_ixS, Mp.W_ix20, Mp.W_ix60, Mp.W_ix61, Mp.W_ix62, Mp.W_ix63, Mp.W_ix64, Mp.W_ix65, Mp.W_ix21, Mp.W_ix30, Mp.W_ix31, Mp.W_ix32, Mp.slD, Mp.toP, Mp.negD, Mp.items, Mp.W_rngD, Mp.zipD, Mp.enumD, Mp.revD, Mp.W_lenL, Mp.W_lenT, Mp.W_lenC, Mp.W_intI, Mp.W_listL, Mp.W_listT, Mp.W_tupL, Mp.W_tupT, Mp.W_min2, Mp.W_max2, Mp.W_absI, Mp.W_sortL, Mp.bmD, Mp.rcv, Mp.setTg, Mp.setAll, Mp.locD_nil, Mp.muAt_nil, Mp.W_muApp, Mp.W_muDct, Mp.W_att_cons, Mp.WO_setFc, Mp.fputF, Mp.fputV, ↓reduceIte, Nat.reduceEqDiff, Mp.W_isi_non_int, Mp.W_isi_non_bool, Mp.W_isi_non_str, Mp.W_isi_non_list, Mp.W_isi_non_tuple, Mp.W_isi_bl_int, Mp.W_isi_bl_bool, Mp.W_isi_bl_str, Mp.W_isi_bl_list, Mp.W_isi_bl_tuple, Mp.W_isi_int_int, Mp.W_isi_int_bool, Mp.W_isi_int_str, Mp.W_isi_int_list, Mp.W_isi_int_tuple, Mp.W_isi_str_int, Mp.W_isi_str_bool, Mp.W_isi_str_str, Mp.W_isi_str_list, Mp.W_isi_str_tuple, Mp.W_isi_tup_int, Mp.W_isi_tup_bool, Mp.W_isi_tup_str, Mp.W_isi_tup_list, Mp.W_isi_tup_tuple, Mp.W_isi_lst_int, Mp.W_isi_lst_bool, Mp.W_isi_lst_str, Mp.W_isi_lst_list, Mp.W_isi_lst_tuple, Mp.W_isi_ins_int, Mp.W_isi_ins_bool, Mp.W_isi_ins_str, Mp.W_isi_ins_list, Mp.W_isi_ins_tuple, Mp.isCls_ins, Mp.ite_bl, Mp.ite_bf, Mp.ite_pp, List.length_map, decide_eq_true_eq, beq_iff_eq, beq_eq_false_iff_ne, decide_eq_false_iff_not, Option.some.injEq, Mp.D.lst.injEq, exists_eq_left', exists_eq_left, Bool.not_eq_true', Bool.not_eq_false', beq_self_eq_true, Bool.not_true, Bool.not_false, reduceCtorEq, false_implies, not_true_eq_false, not_false_eq_true, implies_true, true_and, and_true, true_implies, forall_const, if_true, if_false])
theorem W_lenSq {t : Bool} {xs : List D} {Q : D → Prop} {E1 : D → Prop} : W (bltD .len [sq t xs]) Q E1 = Q (.int xs.length) := by cases t <;> rfl
theorem W_ixSq {a : Type} [Inhabited a] {t : Bool} {l : List a} {f : a → D} {i : Int} {Q : D → Prop} {E1 : D → Prop} : W (ixD (sq t (l.map f)) (.int i)) Q E1 = (inB l.length i ∧ Q (f (getA l i))) := by
  cases t
  · exact W_ixL
  · exact W_ixT
theorem toIs_sumN {l : List Nat} : (l.map fun n : Nat => (n : Int)).sum = (l.sum : Nat) := by
  induction l with
  | nil => rfl
  | cons x l ih => simp [ih]
theorem W_sumNX {l : List Nat} {Q : D → Prop} {E1 : D → Prop} : W (bltD .sum [.lst (l.map dN)]) Q E1 = Q (.int (l.sum : Nat)) := by
  have e : bltD .sum [.lst (l.map dN)] = .ok (.int (l.sum : Nat)) := by
    show (match toIs (l.map dN) with
      | some ns => R.ok (D.int ns.sum)
      | none => R.bad) = _
    rw [toIs_dN]
    simp only
    rw [toIs_sumN]
  rw [W_eq e]
local macro_rules | `(tactic| walk_at "ms") => `(tactic| (walk_at "mn"; repeat (simp -implicitDefEqProofs -dsimp only [MpL.getE_sq, MpL.W_items, MpL.W_lenSq, MpL.W_ixSq, MpL.W_sumNX, MpL.getE_dO]; walk_at "mn")))
theorem getA_mem {a : Type} [Inhabited a] {l : List a} {i : Int} (h0 : 0 ≤ i) (h : i < l.length) : getA l i ∈ l := by
  rw [getA_nat i.toNat (by omega) (by omega)]
  exact List.getElem_mem _
theorem cutL_map {a b : Type} {f : a → b} {l : List a} {i j : Nat} : cutL (l.map f) i j = (cutL l i j).map f := by
  unfold cutL
  rw [← List.map_drop, ← List.map_take]
theorem cutL_len {a : Type} {l : List a} {i j : Nat} : (cutL l i j).length ≤ l.length := by
  unfold cutL
  simp
  omega
theorem emod_inB {x : Int} {n : Nat} (h : 0 < n) : inB n (x % (n : Int)) :=
  ⟨by have := Int.emod_nonneg x (show (n : Int) ≠ 0 by omega); omega, Int.emod_lt_of_pos _ (by omega)⟩
theorem erase_map {a b : Type} {f : a → b} : ∀ {l : List a} {k : Nat}, (l.map f).eraseIdx k = (l.eraseIdx k).map f
  | [], _ => rfl
  | _ :: _, 0 => rfl
  | x :: l, k + 1 => by
    show f x :: (l.map f).eraseIdx k = f x :: (l.eraseIdx k).map f
    rw [erase_map]
theorem pop_ok {a : Type} {l : List a} {f : a → D} {i : Int} (k : Nat) (h : i = (k : Int)) (hk : k < l.length) : popL (l.map f) (.int i) = some (f l[k], (l.eraseIdx k).map f) := by
  unfold popL
  rw [List.length_map]
  simp only [ixL_nat h hk]
  rw [List.getElem?_map, List.getElem?_eq_getElem hk]
  simp only [Option.map_some]
  rw [erase_map]
theorem mixed_ok {A : List Rd} {ds : List Int} (hA : A.length ≤ 1000) (hd : A.length ≤ ds.length) : ∃ B : List Rd, run F__law_mixed [.lst (A.map dR), .lst (ds.map .int)] = .ok (.lst (B.map dR)) ∧ B.length = A.length := by
  suffices z : ∃ d, run F__law_mixed [.lst (A.map dR), .lst (ds.map .int)] = .ok d ∧ ∃ B : List Rd, d = .lst (B.map dR) ∧ B.length = A.length by
    obtain ⟨_, z, b, rfl, q⟩ := z
    exact ⟨b, z, q⟩
  unfold F__law_mixed
  refine Rn (by rfl) ?_
  walk_at "ms"
  refine ⟨by omega, WO_forRng (fun k e => ∃ (X Y : List Rd) (x : D), X.length + k = A.length ∧ Y.length = k ∧ e = [.lst (A.map dR), .lst (ds.map .int), .lst (X.map dR), .lst (Y.map dR), x]) ⟨A, [], _, by omega, rfl, rfl⟩ ?_ ?_⟩
  · rintro k hk _ ⟨X, Y, x, h1, h2, rfl⟩
    unfold F__law_mixed_b1
    have hX : 0 < X.length := by omega
    have a0 := Int.emod_nonneg (getA ds (0 + (k : Int))) (show (X.length : Int) ≠ 0 by omega)
    have a1 := Int.emod_lt_of_pos (getA ds (0 + (k : Int))) (show (0 : Int) < (X.length : Int) by omega)
    walk_at "ms"
    refine ⟨_, _, rfl, rfl, inB_nat (by omega) (by omega), by omega, _, pop_ok (getA ds (0 + (k : Int)) % (X.length : Int)).toNat (by omega) (by omega), by simp [LIM]; omega, X.eraseIdx (getA ds (0 + (k : Int)) % (X.length : Int)).toNat, Y ++ [X[(getA ds (0 + (k : Int)) % (X.length : Int)).toNat]'(by omega)], .int (0 + (k : Int)), ?_, by simp [h2], ?_⟩
    · rw [List.length_eraseIdx_of_lt (by omega)]
      omega
    · rw [map_app1]
  · rintro _ ⟨X, Y, x, h1, h2, rfl⟩
    walk_at "ms"
    exact ⟨Y, rfl, by omega⟩
theorem new_ok {w : List Nat} (hw : WOK w) {rs : List Rd} {ps : List Int} {at_ : Nat} (hp : at_ + 5 ≤ ps.length) (hp2 : ps.length ≤ 1000) (hr : rs.length ≤ 1000) : ∃ r : RI, run F__law_new_road [.lst (w.map dN), .lst (rs.map dR), .lst (ps.map .int), .int at_] = .ok (dRI r) := by
  suffices z : ∃ d, run F__law_new_road [.lst (w.map dN), .lst (rs.map dR), .lst (ps.map .int), .int at_] = .ok d ∧ ∃ r : RI, d = dRI r by
    obtain ⟨_, z, b, rfl⟩ := z
    exact ⟨b, z⟩
  have hsum := hw.sum
  have hl1 := hw.l1
  have hpos : 0 < w.sum := by
    have a := S_lt hw.pos (i := 0) (j := w.length) hl1 (Nat.le_refl _)
    rw [S_all (Nat.le_refl _)] at a
    omega
  have iB : ∀ i : Int, 0 ≤ i → i < 5 → inB ps.length ((at_ : Int) + i) := fun i a b => inB_nat (by omega) (by omega)
  have i0 : inB ps.length (at_ : Int) := inB_nat (by omega) (by omega)
  have t3 : ∀ a b c : Int, [D.int a, .int b, .int c] = [a, b, c].map D.int := fun _ _ _ => rfl
  have t2 : ∀ a b : Int, [D.int a, .int b] = [a, b].map D.int := fun _ _ => rfl
  have out : ∀ a b c : Int, ∃ r : RI, D.tup [.int a, .int b, .int c] = dRI r := fun a b c => ⟨(a, b, c), rfl⟩
  unfold F__law_new_road
  refine Rn (by rfl) ?_
  refine WO_split 4 (fun e => ∃ (K Pz : Int) (O : List Int), O.length = 3 ∧ e = [.lst (w.map dN), .lst (rs.map dR), .lst (ps.map .int), .int at_, .int (w.sum : Nat), .int K, .lst (O.map .int), .int Pz, .un, .un, .un, .un]) ?_ ?_
  · walk_at "ms"
    exact ⟨i0, by decide, iB _ (by omega) (by omega), by omega, iB _ (by omega) (by omega), by decide, _, _, [_, _, _], rfl, rfl⟩
  rintro _ ⟨K, Pz, O, hO, rfl⟩
  refine WO_split 1 (fun e => e = [.lst (w.map dN), .lst (rs.map dR), .lst (ps.map .int), .int at_, .int (w.sum : Nat), .int K, .lst (O.map .int), .int Pz, .un, .un, .un, .un]) ?_ ?_
  · walk_at "ms"
    exact fun _ => ⟨iB _ (by omega) (by omega), by decide, by rw [hO]; exact emod_inB (n := 3) (by decide), iB _ (by omega) (by omega), by omega, out _ _ _⟩
  rintro _ rfl
  refine WO_split 1 (fun e => e = [.lst (w.map dN), .lst (rs.map dR), .lst (ps.map .int), .int at_, .int (w.sum : Nat), .int K, .lst (O.map .int), .int Pz, .un, .un, .un, .un]) ?_ ?_
  · walk_at "ms"
    exact fun _ => ⟨iB _ (by omega) (by omega), by omega, iB _ (by omega) (by omega), by decide, by rw [hO]; exact emod_inB (n := 3) (by decide), out _ _ _⟩
  rintro _ rfl
  refine WO_split 1 (fun e => e = [.lst (w.map dN), .lst (rs.map dR), .lst (ps.map .int), .int at_, .int (w.sum : Nat), .int K, .lst (O.map .int), .int Pz, .un, .un, .un, .un]) ?_ ?_
  · walk_at "ms"
    refine ⟨fun _ h0 => ⟨iB _ (by omega) (by omega), h0, emod_inB (by omega), iB _ (by omega) (by omega), by decide, ?_⟩, fun q z => (q z).elim⟩
    rw [t2, W_ixL]
    refine ⟨emod_inB (n := 2) (by decide), ?_⟩
    walk_at "ms"
    exact out _ _ _
  rintro _ rfl
  refine WO_split 1 (fun e => e = [.lst (w.map dN), .lst (rs.map dR), .lst (ps.map .int), .int at_, .int (w.sum : Nat), .int K, .lst (O.map .int), .int Pz, .un, .un, .un, .un]) ?_ ?_
  · walk_at "ms"
    refine ⟨fun _ h1 => ⟨iB _ (by omega) (by omega), by omega, ?_⟩, fun q z => (q z).elim⟩
    have m0 := Int.emod_nonneg (getA ps ((at_ : Int) + 1)) (show (w.length : Int) - 1 ≠ 0 by omega)
    have m1 := Int.emod_lt_of_pos (getA ps ((at_ : Int) + 1)) (show (0 : Int) < (w.length : Int) - 1 by omega)
    generalize getA ps ((at_ : Int) + 1) % ((w.length : Int) - 1) = m at m0 m1
    have wp : ∀ i : Int, 0 ≤ i → i < w.length → (0 : Int) < (getA w i : Nat) := fun i a b => by
      have := hw.pos _ (getA_mem a b)
      omega
    have g0 := wp m m0 (by omega)
    have g1 := wp (m + 1) (by omega) (by omega)
    rw [cutL_map, W_sumNX]
    walk_at "ms"
    exact ⟨inB_nat (by omega) (by omega), inB_nat (by omega) (by omega), inB_nat (by omega) (by omega), by omega, inB_nat (by omega) (by omega), inB_nat (by omega) (by omega), by omega, out _ _ _⟩
  rintro _ rfl
  walk_at "ms"
  exact ⟨iB _ (by omega) (by omega), by omega, iB _ (by omega) (by omega), by omega, out _ _ _⟩
abbrev sNet : D := .str [110, 101, 116]
abbrev xNet (i : Int) : D := .ins X_BadNet [0] [.int i]
abbrev xCross (j k : Int) : D := .ins X_RoadsCross [1, 2] [.int j, .int k]
section
variable {t u : Bool} {xs ys : List D}
theorem made_net {w : List Nat} {rs : List Rd} (h : run F_Net___init__ [.ins 0 [] [], sq t xs, sq u ys] = .ok (netD w rs)) : run F__law_made [sq t xs, sq u ys] = .ok (.tup [sNet, .tup (w.map dN), .tup (rs.map dR)]) := by
  unfold F__law_made
  refine RnE (by rfl) ?_
  refine WO_split 1 (fun e => e = [sq t xs, sq u ys, netD w rs, .un]) ?_ ?_
  · simp only [List.take_succ_cons, List.take_zero]
    rw [WO_cons]
    refine WO_triI ?_
    unfold F__law_made_b1
    walk_at "ms"
    refine W.by h ?_
    walk_at "ms"
  rintro _ rfl
  walk_at "ms"
theorem made_bad {i : Int} (h : run F_Net___init__ [.ins 0 [] [], sq t xs, sq u ys] = .exc (xNet i)) : run F__law_made [sq t xs, sq u ys] = .ok (.tup [sBadNet, .int i]) := by
  unfold F__law_made
  refine RnE (by rfl) ?_
  rw [WO_cons]
  refine WO_triI ?_
  unfold F__law_made_b1
  walk_at "ms"
  refine W.byX h fun e he => ?_
  match e, he with
  | [a, b, c, d], _ =>
    rw [WO_h1]
    unfold F__law_made_h2
    rw [if_pos (by decide)]
    walk_at "ms"
    exact ⟨_, rfl, rfl⟩
theorem made_cross {j k : Int} (h : run F_Net___init__ [.ins 0 [] [], sq t xs, sq u ys] = .exc (xCross j k)) : run F__law_made [sq t xs, sq u ys] = .ok (.tup [sCross, .int j, .int k]) := by
  unfold F__law_made
  refine RnE (by rfl) ?_
  rw [WO_cons]
  refine WO_triI ?_
  unfold F__law_made_b1
  walk_at "ms"
  refine W.byX h fun e he => ?_
  match e, he with
  | [a, b, c, d], _ =>
    rw [WO_h1, if_neg (by decide), WO_h1]
    unfold F__law_made_h3
    rw [if_pos (by decide)]
    walk_at "ms"
    exact ⟨_, rfl, _, rfl, rfl⟩
theorem kinds_net {w : List Nat} {rs : List Rd} (h : run F_Net___init__ [.ins 0 [] [], sq t xs, sq u ys] = .ok (netD w rs)) : run F__law_kinds [sq t xs, sq u ys] = .ok (.lst []) := by
  unfold F__law_kinds
  refine RnE (by rfl) ?_
  rw [WO_cons]
  refine WO_triI ?_
  unfold F__law_kinds_b1
  walk_at "ms"
  refine W.by h ?_
  walk_at "ms"
theorem kinds_bad {i : Int} (h : run F_Net___init__ [.ins 0 [] [], sq t xs, sq u ys] = .exc (xNet i)) : run F__law_kinds [sq t xs, sq u ys] = .ok (.lst [.bl true, .bl true, .bl false, .bl false]) := by
  unfold F__law_kinds
  refine RnE (by rfl) ?_
  rw [WO_cons]
  refine WO_triI ?_
  unfold F__law_kinds_b1
  walk_at "ms"
  refine W.byX h fun e he => ?_
  match e, he with
  | [a, b, c], _ =>
    rw [WO_h1]
    unfold F__law_kinds_h2
    rw [if_pos (by decide)]
    walk_at "ms"
    rfl
theorem kinds_cross {j k : Int} (h : run F_Net___init__ [.ins 0 [] [], sq t xs, sq u ys] = .exc (xCross j k)) : run F__law_kinds [sq t xs, sq u ys] = .ok (.lst [.bl true, .bl false, .bl true, .bl false]) := by
  unfold F__law_kinds
  refine RnE (by rfl) ?_
  rw [WO_cons]
  refine WO_triI ?_
  unfold F__law_kinds_b1
  walk_at "ms"
  refine W.byX h fun e he => ?_
  match e, he with
  | [a, b, c], _ =>
    rw [WO_h1]
    unfold F__law_kinds_h2
    rw [if_pos (by decide)]
    walk_at "ms"
    rfl
end
theorem eq_self {d : D} (h : okD 12 d = true) : eqR d d = .ok true := by
  unfold eqR
  rw [if_pos (by simp [h]), eqD_refl 12 d h]
/-- what is due of a net's making -/
def Due (ws ys : List D) (due : D) : Prop := (∃ (w : List Nat) (rs : List Rd), (∀ t u, run F_Net___init__ [.ins 0 [] [], sq t ws, sq u ys] = .ok (netD w rs)) ∧ due = .tup [sNet, .tup (w.map dN), .tup (rs.map dR)] ∧ w.length ≤ 100 ∧ rs.length ≤ 1000) ∨
  (∃ i : Int, (∀ t u, run F_Net___init__ [.ins 0 [] [], sq t ws, sq u ys] = .exc (xNet i)) ∧ due = .tup [sBadNet, .int i]) ∨
  (∃ j k : Int, (∀ t u, run F_Net___init__ [.ins 0 [] [], sq t ws, sq u ys] = .exc (xCross j k)) ∧ due = .tup [sCross, .int j, .int k])
theorem Due.told {ws ys : List D} {due : D} (h : Due ws ys due) (t u : Bool) : run F__law_made [sq t ws, sq u ys] = .ok due := by
  rcases h with ⟨w, rs, h, rfl, _⟩ | ⟨i, h, rfl⟩ | ⟨j, k, h, rfl⟩
  · exact made_net (h t u)
  · exact made_bad (h t u)
  · exact made_cross (h t u)
theorem Due.sm {ws ys : List D} {due : D} (h : Due ws ys due) : sm 8 due := by
  rcases h with ⟨w, rs, h, rfl, h1, h2⟩ | ⟨i, h, rfl⟩ | ⟨j, k, h, rfl⟩
  · simp [MpL.sm, strOk, LIM]
    exact ⟨by omega, by omega, fun x a b c _ e => by subst e; simp [MpL.sm]⟩
  · simp [MpL.sm, strOk, LIM]
  · simp [MpL.sm, strOk, LIM]
theorem plain_k02 (xs : List Int) : run F_law [.scr xs] = .ok (.bl true) := by
  obtain ⟨k0, h0⟩ := cell_ok xs 0
  obtain ⟨k1, h1⟩ := cell_ok xs 1
  obtain ⟨k2, h2⟩ := cell_ok xs 2
  obtain ⟨ds, d1, d2, d3⟩ := draws_ok k0 70 (by decide)
  obtain ⟨ps, p1, p2, p3⟩ := draws_ok k2 17 (by decide)
  obtain ⟨qs, q1, q2, q3⟩ := draws_ok k1 55 (by decide)
  obtain ⟨w, hw1, hw, hs, hst⟩ := widths_ok ds false (by omega)
  obtain ⟨rs0, hr1, hr, hrl⟩ := roads_ok w ds hw (by omega) d3
  obtain ⟨rs, hm1, hm2⟩ := mixed_ok (A := rs0) (ds := qs) (by omega) (by omega)
  have hw2 := hw.l1
  have hw3 := hw.l2
  have iB : ∀ i : Int, 0 ≤ i → i < 17 → inB ps.length i := fun i a b => inB_nat a (by omega)
  have four : ∀ {i : Int} {Q : D → Prop} {E1 : D → Prop}, W (ixD (.lst [.int 0, .int 1, .int 2, .int 2]) (.int i)) Q E1 = (inB 4 i ∧ Q (.int (getA [(0 : Int), 1, 2, 2] i))) := fun {i Q E1} => W_ixL (l := [(0 : Int), 1, 2, 2]) (f := D.int)
  unfold F_law
  refine RnE (by rfl) ?_
  refine WO_split 5 (fun e => e = [.scr xs, .lst (ds.map .int), .lst (ps.map .int), .lst (w.map dN), .lst (rs.map dR), .lst ((rs.map iR).map dRI), .un, .un, .un, .un, .un, .un, .un]) ?_ ?_
  · walk_at "ms"
    refine W.by h0 ?_
    walk_at "ms"
    refine W.by d1 ?_
    walk_at "ms"
    refine W.by h2 ?_
    walk_at "ms"
    refine W.by p1 ?_
    walk_at "ms"
    refine W.by hw1 ?_
    walk_at "ms"
    refine W.by hr1 ?_
    walk_at "ms"
    refine W.by h1 ?_
    walk_at "ms"
    refine W.by q1 ?_
    walk_at "ms"
    refine W.by hm1 ?_
    walk_at "ms"
    rw [List.map_map]
    rfl
  rintro _ rfl
  refine WO_split 1 (fun e => ∃ (ls : List RI) (x y : D), ls.length ≤ 400 ∧ e = [.scr xs, .lst (ds.map .int), .lst (ps.map .int), .lst (w.map dN), .lst (rs.map dR), .lst (ls.map dRI), x, y, .un, .un, .un, .un, .un]) ?_ ?_
  · walk_at "ms"
    rw [four]
    have hm := getA_mem (l := [(0 : Int), 1, 2, 2]) (i := getA ps 0 % 4) (Int.emod_nonneg _ (by decide)) (Int.emod_lt_of_pos _ (by decide))
    refine ⟨iB _ (by omega) (by omega), by decide, emod_inB (n := 4) (by decide), ?_⟩
    generalize getA [(0 : Int), 1, 2, 2] (getA ps 0 % 4) = N at hm
    have hN : 0 ≤ N ∧ N ≤ 2 := by simp at hm; omega
    walk_at "ms"
    refine ⟨by omega, WO_forRng (fun k e => ∃ (ls : List RI) (x y : D), ls.length + 1 ≤ 56 * 2 ^ k ∧ e = [.scr xs, .lst (ds.map .int), .lst (ps.map .int), .lst (w.map dN), .lst (rs.map dR), .lst (ls.map dRI), x, y, .un, .un, .un, .un, .un]) ⟨rs.map iR, _, _, by simp; omega, rfl⟩ ?_ ?_⟩
    · rintro k hk _ ⟨ls, x, y, hll, rfl⟩
      have hk2 : k < 2 := by omega
      unfold F_law_b1
      have mo : mulOk 6 (0 + (k : Int)) = true := mulOk_l (by decide) (by decide)
      obtain ⟨r, hn⟩ := new_ok hw (rs := rs) (ps := ps) (at_ := 6 + 6 * k) (by omega) (by omega) (by omega)
      have ea : (6 : Int) + 6 * (0 + (k : Int)) = ((6 + 6 * k : Nat) : Int) := by omega
      walk_at "ms"
      rw [ea]
      refine ⟨mo, iB _ (by omega) (by omega), by omega, mo, W.by hn ?_⟩
      walk_at "ms"
      simp only [cutL_map]
      generalize ha : sx ls.length 0 none = a1
      generalize hb : sx ls.length ls.length (some (getA ps (5 + 6 * (0 + (k : Int))) % ((ls.length : Int) + 1))) = a2
      generalize hc : sx ls.length 0 (some (getA ps (5 + 6 * (0 + (k : Int))) % ((ls.length : Int) + 1))) = a3
      generalize hd : sx ls.length ls.length none = a4
      have l1 := cutL_len (l := ls) (i := a1) (j := a2)
      have l2 := cutL_len (l := ls) (i := a3) (j := a4)
      have hp4 : 2 ^ k ≤ 2 ^ 1 := Nat.pow_le_pow_right (by decide) (by omega)
      have hp5 : 2 ^ (k + 1) = 2 * 2 ^ k := by rw [Nat.pow_succ]; omega
      refine ⟨by simp [LIM]; omega, by simp [LIM]; omega, cutL ls a1 a2 ++ [r] ++ cutL ls a3 a4, .int (0 + (k : Int)), .int (getA ps (5 + 6 * (0 + (k : Int))) % ((ls.length : Int) + 1)), ?_, ?_⟩
      · rw [hp5]
        simp
        omega
      · simp only [List.map_append, List.map_cons, List.map_nil]
    · rintro _ ⟨ls, x, y, hll, rfl⟩
      have hp4 : 2 ^ (N - 0).toNat ≤ 2 ^ 2 := Nat.pow_le_pow_right (by decide) (by omega)
      walk_at "ms"
      exact ⟨ls, _, _, by omega, rfl⟩
  rintro _ ⟨ls, x, y, hll, rfl⟩
  have hsc := scan_ok w ls hw (by omega)
  have hrw := lrows_ok w hw
  have ew : (w.map fun n : Nat => (n : Int)).map D.int = w.map dN := by rw [List.map_map]; rfl
  -- what is due of the roads
  obtain ⟨due, hdue, hfst⟩ : ∃ due : D, Due (w.map dN) (ls.map dRI) due ∧ ((verd w ls = none ∧ ∃ (ls' rs' : List Rd), ls = ls'.map iR ∧ ls'.Perm rs' ∧ NOK w rs' ∧ due = .tup [sNet, .tup (w.map dN), .tup (rs'.map dR)]) ∨ (verd w ls ≠ none ∧ due = tellS (verd w ls) ∧ ∃ x, due = .tup x)) := by
    cases hv : verd w ls with
    | none =>
      obtain ⟨ls', rs', e1, hp, hn⟩ := verd_net hw (verd_inv hv)
      have hl := hp.length_eq
      have em : ls'.map dR = ls.map dRI := by rw [e1, List.map_map]; rfl
      have hll2 : ls'.length = ls.length := by rw [e1, List.length_map]
      refine ⟨_, .inl ⟨w, rs', fun t u => by rw [← em]; exact net_ok w rs' ls' t u hn hp (by omega), rfl, by omega, by omega⟩, .inl ⟨rfl, ls', rs', e1, hp, hn, rfl⟩⟩
    | some kv =>
      obtain ⟨k, v⟩ := kv
      have hx := fun t u => net_exc (ls := ls) t u hw (by omega) hv
      cases v with
      | none => exact ⟨_, .inr (.inl ⟨k, hx, rfl⟩), .inr ⟨by simp, rfl, _, rfl⟩⟩
      | some j => exact ⟨_, .inr (.inr ⟨j, k, hx, rfl⟩), .inr ⟨by simp, rfl, _, rfl⟩⟩
  refine WO_split 2 (fun e => e = [.scr xs, .lst (ds.map .int), .lst (ps.map .int), .lst (w.map dN), .lst (rs.map dR), .lst (ls.map dRI), x, y, due, .un, .un, .un, .un]) ?_ ?_
  · walk_at "ms"
    refine W.by hrw ?_
    walk_at "ms"
    refine W.by hsc ?_
    rcases hfst with ⟨hv, ls', rs', e1, hp, hn, rfl⟩ | ⟨hv, rfl, xx, hxx⟩
    · rw [hv, show tellS none = .non from rfl]
      have em : ls.map dRI = ls'.map dR := by rw [e1, List.map_map]; rfl
      have hso := sort_ok hp hn.ord
      walk_at "ms"
      rw [em, W_eq hso]
      walk_at "ms"
    · rw [hxx]
      walk_at "ms"
  rintro _ rfl
  -- the widths as they are passed
  refine WO_split 2 (fun e => ∃ (ws : List Int) (due : D) (x y : D), Due (ws.map .int) (ls.map dRI) due ∧ (∃ z, due = .tup z) ∧ ws.length ≤ 100 ∧ e = [.scr xs, .lst (ds.map .int), .lst (ps.map .int), .lst (w.map dN), .lst (rs.map dR), .lst (ls.map dRI), x, y, due, .lst (ws.map .int), .un, .un, .un]) ?_ ?_
  · have hdt : ∃ z, due = .tup z := by
      rcases hfst with ⟨_, _, _, _, _, _, rfl⟩ | ⟨_, _, x, rfl⟩ <;> exact ⟨_, rfl⟩
    obtain ⟨z, rfl⟩ := hdt
    have hbad : ∀ ws : List Int, (ws = [] ∨ ∃ x ∈ ws, x < 1) → Due (ws.map .int) (ls.map dRI) (.tup [sBadNet, .int (-1)]) := fun ws hb => .inr (.inl ⟨-1, fun t u => net_spoilt t u (by omega) hb, rfl⟩)
    walk_at "ms"
    refine ⟨iB _ (by omega) (by omega), by decide, fun _ => ⟨iB _ (by omega) (by omega), by omega, iB _ (by omega) (by omega), by decide, ?_⟩, fun _ => ⟨w.map fun n : Nat => (n : Int), .tup z, x, y, by rw [ew]; exact hdue, ⟨_, rfl⟩, by simp; omega, by rw [ew]⟩⟩
    simp only [cutL_map]
    generalize sx w.length 0 none = a1
    generalize sx w.length w.length (some (getA ps 3 % (w.length : Int))) = a2
    generalize sx w.length 0 (some (getA ps 3 % (w.length : Int) + 1)) = a3
    generalize sx w.length w.length none = a4
    have l1 := cutL_len (l := w) (i := a1) (j := a2)
    have l2 := cutL_len (l := w) (i := a3) (j := a4)
    refine ⟨by simp [LIM]; omega, by simp [LIM]; omega, iB _ (by omega) (by omega), by decide, fun _ => ⟨[], _, x, _, hbad [] (.inl rfl), ⟨_, rfl⟩, by simp, rfl⟩, fun hq => ?_⟩
    have hq0 := Int.emod_nonneg (getA ps 2) (show (4 : Int) ≠ 0 by decide)
    refine ⟨(cutL w a1 a2).map (fun n : Nat => (n : Int)) ++ [1 - getA ps 2 % 4] ++ (cutL w a3 a4).map (fun n : Nat => (n : Int)), _, x, .int (getA ps 3 % (w.length : Int)), hbad _ (.inr ⟨1 - getA ps 2 % 4, by simp, by omega⟩), ⟨_, rfl⟩, by simp; omega, ?_⟩
    simp only [List.map_append, List.map_map, List.map_cons, List.map_nil]
    rfl
  rintro _ ⟨ws, due, x, y, hD, ⟨z, rfl⟩, hwl, rfl⟩
  have hsm : run F__law_same [.tup z, .tup z] = .ok (.bl true) := same_ok _ hD.sm
  have t0 := hD.told false false
  have t1 := hD.told true true
  simp only [sq, Bool.false_eq_true, if_false, if_true] at t0 t1
  refine WO_split 3 (fun e => e = [.scr xs, .lst (ds.map .int), .lst (ps.map .int), .lst (w.map dN), .lst (rs.map dR), .lst (ls.map dRI), x, y, .tup z, .lst (ws.map .int), .lst (ws.map .int), .lst (ls.map dRI), .tup z]) ?_ ?_
  · walk_at "ms"
    refine ⟨iB _ (by omega) (by omega), by decide, fun _ => W.by t0 ?_, fun _ => W.by t1 ?_⟩ <;> walk_at "ms"
  rintro _ rfl
  have q1 : eqR (.lst (ws.map D.int)) (.lst (ws.map D.int)) = .ok true := eq_self (okL_map (fun _ _ => rfl))
  have q2 : eqR (.lst (ls.map dRI)) (.lst (ls.map dRI)) = .ok true := eq_self (okL_map (fun _ _ => rfl))
  refine WO_split 1 (fun e => e = [.scr xs, .lst (ds.map .int), .lst (ps.map .int), .lst (w.map dN), .lst (rs.map dR), .lst (ls.map dRI), x, y, .tup z, .lst (ws.map .int), .lst (ws.map .int), .lst (ls.map dRI), .tup z]) ?_ ?_
  · walk_at "ms"
    rw [W_eq hsm]
    walk_at "ms"
    rw [q1]
    walk_at "ms"
    rw [q2]
    walk_at "ms"
  rintro _ rfl
  have sEq : ∀ {a b : List Nat} {Q : Bool → Prop} {E1 : D → Prop}, strOk a = true → strOk b = true → W (eqR (.str a) (.str b)) Q E1 = Q (a == b) := fun {a b Q E1} ha hb => by
    unfold eqR
    have : (okD 12 (.str a) && okD 12 (.str b)) = true := by simp [okD, ha, hb]
    rw [if_pos this]
    rfl
  rcases hD with ⟨w1, rs1, hn, hz, _⟩ | ⟨i, hn, hz⟩ | ⟨j, k, hn, hz⟩
  · have hk := kinds_net (hn false false)
    simp only [sq, Bool.false_eq_true, if_false] at hk
    rw [hz]
    walk_at "ms"
    rw [sEq (by decide) (by decide)]
    walk_at "ms"
    rw [W_eq hk]
    walk_at "ms"
    rfl
  · have hk := kinds_bad (hn false false)
    simp only [sq, Bool.false_eq_true, if_false] at hk
    rw [hz]
    walk_at "ms"
    rw [sEq (by decide) (by decide)]
    walk_at "ms"
    refine ⟨fun z => by simp at z, fun _ => ?_⟩
    rw [W_eq hk]
    walk_at "ms"
    rw [sEq (by decide) (by decide)]
    walk_at "ms"
    rw [sEq (by decide) (by decide)]
    walk_at "ms"
    rfl
  · have hk := kinds_cross (hn false false)
    simp only [sq, Bool.false_eq_true, if_false] at hk
    rw [hz]
    walk_at "ms"
    rw [sEq (by decide) (by decide)]
    walk_at "ms"
    refine ⟨fun z => by simp at z, fun _ => ?_⟩
    rw [W_eq hk]
    walk_at "ms"
    rw [sEq (by decide) (by decide)]
    walk_at "ms"
    rw [sEq (by decide) (by decide)]
    walk_at "ms"
    rfl
end MpL

set_option maxHeartbeats 1000000
/-! MpR: how data stand in the layer's heap; who owns what. -/
namespace MpS
open PySem PySem.Spec PyProof.Rows L2

/-- the written part, the classes' addresses by number, the fields' names by number -/
structure Cur where
  /-- self's address, while an __init__ runs -/
  pin : Addr
  /-- the exception that an except suite holds, its class, its dict -/
  xa : Addr
  xc : Value
  xd : Option Addr
structure Cfg where
  K : PySem.W.Frag
  cad : Nat → Addr
  nc : Nat
  FN : List Str
  /-- the exceptions' classes -/
  xad : Nat → Addr
  nx : Nat
  cur : Cur

/-- the known part of a heap -/
def frzOf (H : Hp) : Hp := fun a => match H a with
  | some (.frz o u) => some (.frz o u)
  | _ => none
theorem frzOf_some {H : Hp} {a : Addr} {o : HO} (h : frzOf H a = some o) : H a = some o ∧ ∃ b u, o = .frz b u := by
  unfold frzOf at h
  split at h
  · rename_i b u q
    cases h
    exact ⟨q, _, _, rfl⟩
  · cases h
theorem frzOf_mk {H : Hp} {a : Addr} {o : Obj} {u : HO} (h : H a = some (.frz o u)) : frzOf H a = some (.frz o u) := by
  unfold frzOf
  rw [h]
/-- a tuple: known to the object, and that it has no dict -/
def TupAt (C : Cfg) (H : Hp) (p : Addr) (us : List V) : Prop := (∃ o : Obj, H p = some (.frz o (.tup us)) ∧ o.dict = none) ∨ (us = [] ∧ SqT C.K H p [])
theorem TupAt.sq {C : Cfg} {H : Hp} {p : Addr} {us : List V} (h : TupAt C H p us) : SqT C.K H p us := by
  rcases h with ⟨o, h, _⟩ | ⟨rfl, h⟩
  · exact .inl (.inr ⟨o, h⟩)
  · exact h
def keyOf : Mp.D → Option Key
  | .int i => some (.inl i)
  | .str s => some (.inr ⟨s.toArray⟩)
  | _ => none
def keysOf : List Mp.D → Option (List Key)
  | [] => some []
  | d :: ds => match keyOf d, keysOf ds with
    | some k, some ks => some (k :: ks)
    | _, _ => none
def keyT : Mp.D → Option (List Key)
  | .tup xs => keysOf xs
  | _ => none
def DctAt (H : Hp) (p : Addr) (tk : Bool) (ks : List Mp.D) (us : List V) : Prop := ks.length = us.length ∧
  match tk with
  | true => ∃ kk : List (List Key), ks.map keyT = kk.map some ∧ H p = some (.dT (kk.zip us)) ∧ (∀ k ∈ kk, k ≠ []) ∧ kk.Nodup
  | false => ∃ kk : List Key, ks.map keyOf = kk.map some ∧ H p = some (.dK (kk.zip us)) ∧ kk.Nodup
/-- an instance's attributes -/
structure FsOk (C : Cfg) (c : Nat) (fs : List Nat) (us : List V) (fs' : List (Str × V)) : Prop where
  cl : c < C.nc
  len : us.length = fs.length
  le : fs'.length ≤ fs.length
  at_ : ∀ f x, C.FN[f]? = some x → fs'.lookup x = Mp.fget fs us f
  no : ∀ x, x ∉ C.FN → fs'.lookup x = none

mutual
def Val (C : Cfg) (Fz : Addr → Prop) (H : Hp) : Mp.D → V → Prop
  | .un, _ => False
  | .non, v => v = .non
  | .bl b, v => v = .bl b
  | .int i, v => v = .int i
  | .str s, v => v = .str ⟨s.toArray⟩
  | .tup ds, v => ∃ p us, v = .ref p ∧ TupAt C H p us ∧ ValL C Fz H ds us
  | .lst ds, v => ∃ p us, v = .ref p ∧ Fz p ∧ H p = some (.lst us) ∧ ValL C Fz H ds us
  | .dct tk ks vs, v => ∃ p us, v = .ref p ∧ Fz p ∧ DctAt H p tk ks us ∧ ValL C Fz H vs us
  | .ins c fs vs, v => ∃ p dx fs' us, v = .ref p ∧ Fz p ∧ H p = some (.ins (C.cad c) dx fs') ∧ FsOk C c fs us fs' ∧ ValL C Fz H vs us
  | .scr ns, v => ∃ p, v = .ref p ∧ SqL C.K (frzOf H) p (ns.map V.int)
def ValL (C : Cfg) (Fz : Addr → Prop) (H : Hp) : List Mp.D → List V → Prop
  | [], us => us = []
  | d :: ds, us => ∃ u us', us = u :: us' ∧ Val C Fz H d u ∧ ValL C Fz H ds us'
end

/-- the frozen part, the tuples, the known stand -/
structure Keep (Fz : Addr → Prop) (H H' : Hp) : Prop where
  fz : ∀ a o, Fz a → H a = some o → H' a = some o
  tp : ∀ a us, H a = some (.tup us) → H' a = some (.tup us)
  fr : ∀ a o u, H a = some (.frz o u) → H' a = some (.frz o u)
theorem Keep.of {Fz : Addr → Prop} {H H' : Hp} (h : Same H H') : Keep Fz H H' := ⟨fun a o _ e => h a o e, fun a us e => h a _ e, fun a o u e => h a _ e⟩

section
variable {C : Cfg} {Fz Fz' : Addr → Prop} {H H' : Hp}
theorem Keep.sqt {p : Addr} {us : List V} (k : Keep Fz H H') (h : SqT C.K H p us) : SqT C.K H' p us := by
  rcases h with (h | ⟨o, h⟩) | h
  · exact .inl (.inl (k.tp _ _ h))
  · exact .inl (.inr ⟨o, k.fr _ _ _ h⟩)
  · exact .inr h
theorem Keep.tup {p : Addr} {us : List V} (k : Keep Fz H H') (h : TupAt C H p us) : TupAt C H' p us := by
  rcases h with ⟨o, h, n⟩ | ⟨rfl, h⟩
  · exact .inl ⟨o, k.fr _ _ _ h, n⟩
  · exact .inr ⟨rfl, k.sqt h⟩
theorem DctAt.mv {p : Addr} {tk : Bool} {ks : List Mp.D} {us : List V} (h : DctAt H p tk ks us) (k : ∀ o, H p = some o → H' p = some o) : DctAt H' p tk ks us := by
  obtain ⟨hl, h⟩ := h
  refine ⟨hl, ?_⟩
  cases tk with
  | true =>
    obtain ⟨kk, e, h, n⟩ := h
    exact ⟨kk, e, k _ h, n⟩
  | false =>
    obtain ⟨kk, e, h, n⟩ := h
    exact ⟨kk, e, k _ h, n⟩
mutual
theorem Val.keep (hs : ∀ a, Fz a → Fz' a) (k : Keep Fz H H') : ∀ (d : Mp.D) (v : V), Val C Fz H d v → Val C Fz' H' d v
  | .un, _, h => by simp only [Val] at h
  | .non, _, h => by simpa only [Val] using h
  | .bl _, _, h => by simpa only [Val] using h
  | .int _, _, h => by simpa only [Val] using h
  | .str _, _, h => by simpa only [Val] using h
  | .tup ds, v, h => by
    simp only [Val] at h ⊢
    obtain ⟨p, us, e, t, l⟩ := h
    exact ⟨p, us, e, k.tup t, ValL.keep hs k ds us l⟩
  | .lst ds, v, h => by
    simp only [Val] at h ⊢
    obtain ⟨p, us, e, f, t, l⟩ := h
    exact ⟨p, us, e, hs _ f, k.fz _ _ f t, ValL.keep hs k ds us l⟩
  | .dct tk ks vs, v, h => by
    simp only [Val] at h ⊢
    obtain ⟨p, us, e, f, t, l⟩ := h
    exact ⟨p, us, e, hs _ f, t.mv fun o => k.fz _ _ f, ValL.keep hs k vs us l⟩
  | .ins c fs vs, v, h => by
    simp only [Val] at h ⊢
    obtain ⟨p, dx, fs', us, e, f, t, q, l⟩ := h
    exact ⟨p, dx, fs', us, e, hs _ f, k.fz _ _ f t, q, ValL.keep hs k vs us l⟩
  | .scr ns, v, h => by
    simp only [Val] at h ⊢
    obtain ⟨p, e, q⟩ := h
    refine ⟨p, e, ?_⟩
    rcases q with (q | ⟨o, q⟩) | q
    · obtain ⟨_, b, u, z⟩ := frzOf_some q
      cases z
    · exact .inl (.inr ⟨o, frzOf_mk (k.fr _ _ _ (frzOf_some q).1)⟩)
    · exact .inr q
theorem ValL.keep (hs : ∀ a, Fz a → Fz' a) (k : Keep Fz H H') : ∀ (ds : List Mp.D) (us : List V), ValL C Fz H ds us → ValL C Fz' H' ds us
  | [], _, h => by simpa only [ValL] using h
  | d :: ds, us, h => by
    simp only [ValL] at h ⊢
    obtain ⟨u, us', e, h1, h2⟩ := h
    exact ⟨u, us', e, Val.keep hs k d u h1, ValL.keep hs k ds us' h2⟩
end

/-- an exception's own dict -/
structure XfOk (C : Cfg) (fs : List Nat) (us : List V) (fs' : List (Str × V)) : Prop where
  len : us.length = fs.length
  at_ : ∀ f x, C.FN[f]? = some x → fs'.lookup x = Mp.fget fs us f
def XRep (C : Cfg) (Fz : Addr → Prop) (H : Hp) (d : Mp.D) (cls : Value) (dx : Option Addr) : Prop := match d with
  | .ins c fs vs => c < C.nx ∧ cls = .ref (C.xad c) ∧ ((fs = [] ∧ vs = [] ∧ dx = none) ∨ ∃ a fs' us, dx = some a ∧ Fz a ∧ H a = some (.xd fs') ∧ XfOk C fs us fs' ∧ ValL C Fz H vs us)
  | _ => False
theorem XRep.keep {d : Mp.D} {cls : Value} {dx : Option Addr} (hs : ∀ a, Fz a → Fz' a) (k : Keep Fz H H') (h : XRep C Fz H d cls dx) : XRep C Fz' H' d cls dx := by
  cases d with
  | ins c fs vs =>
    obtain ⟨h1, h2, h3⟩ := h
    refine ⟨h1, h2, ?_⟩
    rcases h3 with h3 | ⟨a, fs', us, e, f, q, x, l⟩
    · exact .inl h3
    · exact .inr ⟨a, fs', us, e, hs _ f, k.fz _ _ f q, x, ValL.keep hs k _ _ l⟩
  | _ => exact h
theorem valL_iff : ∀ {ds : List Mp.D} {us : List V}, ValL C Fz H ds us ↔ Paired (Val C Fz H) ds us
  | [], us => by
    simp only [ValL]
    constructor
    · rintro rfl; exact .nil
    · intro h; cases h; rfl
  | d :: ds, us => by
    simp only [ValL]
    constructor
    · rintro ⟨u, us', rfl, h1, h2⟩; exact .cons h1 (valL_iff.mp h2)
    · intro h
      cases h with
      | cons h1 h2 => exact ⟨_, _, rfl, h1, valL_iff.mpr h2⟩
end

/-! ### read k levels deep, whoever owns these -/
def Rd (C : Cfg) (Fz : Addr → Prop) (H : Hp) : Nat → Mp.D → V → Prop
  | 0, d, v => Val C Fz H d v
  | k + 1, d, v => match d with
    | .lst ds => ∃ p us, v = .ref p ∧ H p = some (.lst us) ∧ Paired (Rd C Fz H k) ds us
    | .dct tk ks vs => ∃ p us, v = .ref p ∧ DctAt H p tk ks us ∧ ValL C Fz H vs us
    | .ins c fs vs => ∃ p dx fs' us, v = .ref p ∧ H p = some (.ins (C.cad c) dx fs') ∧ FsOk C c fs us fs' ∧ ValL C Fz H vs us
    | d => Val C Fz H d v
/-- owned k levels deep: A the addresses -/
def OwL (P : Mp.D → V → List Addr → Prop) : List Mp.D → List V → List Addr → Prop
  | [], us, A => us = [] ∧ A = []
  | d :: ds, us, A => ∃ u us' B B', us = u :: us' ∧ A = B ++ B' ∧ P d u B ∧ OwL P ds us' B'
def Ow (C : Cfg) (Fz : Addr → Prop) (H : Hp) : Nat → Mp.D → V → List Addr → Prop
  | 0, d, v, A => Val C Fz H d v ∧ A = []
  | k + 1, d, v, A => match d with
    | .lst ds => ∃ p us B, v = .ref p ∧ H p = some (.lst us) ∧ A = p :: B ∧ OwL (Ow C Fz H k) ds us B
    | .dct tk ks vs => ∃ p us, v = .ref p ∧ DctAt H p tk ks us ∧ A = [p] ∧ ValL C Fz H vs us
    | .ins c fs vs => ∃ p dx fs' us, v = .ref p ∧ H p = some (.ins (C.cad c) dx fs') ∧ FsOk C c fs us fs' ∧ A = [p] ∧ ValL C Fz H vs us
    | d => Val C Fz H d v ∧ A = []

section
variable {C : Cfg} {Fz Fz' : Addr → Prop} {H H' : Hp}
theorem pimp {α β : Type} {F G : α → β → Prop} {l : List α} {m : List β} (h : Paired F l m) (f : ∀ a b, F a b → G a b) : Paired G l m := by
  induction h with
  | nil => exact .nil
  | cons a _ ih => exact .cons (f _ _ a) ih
theorem ValL.length {ds : List Mp.D} {us : List V} (h : ValL C Fz H ds us) : ds.length = us.length := Paired.length (valL_iff.mp h)
theorem Rd.same (s : Same H H') (hs : ∀ a, Fz a → Fz' a) : ∀ (k : Nat) (d : Mp.D) (v : V), Rd C Fz H k d v → Rd C Fz' H' k d v
  | 0, d, v, h => Val.keep hs (.of s) d v h
  | k + 1, d, v, h => by
    cases d with
    | lst ds =>
      obtain ⟨p, us, e, t, l⟩ := h
      exact ⟨p, us, e, s _ _ t, pimp l fun a b => Rd.same s hs k a b⟩
    | dct tk ks vs =>
      obtain ⟨p, us, e, t, l⟩ := h
      exact ⟨p, us, e, t.mv fun o => s _ o, ValL.keep hs (.of s) _ _ l⟩
    | ins c fs vs =>
      obtain ⟨p, dx, fs', us, e, t, q, l⟩ := h
      exact ⟨p, dx, fs', us, e, s _ _ t, q, ValL.keep hs (.of s) _ _ l⟩
    | _ => exact Val.keep hs (.of s) _ v h
theorem Rd.of_val : ∀ (k : Nat) (d : Mp.D) (v : V), Val C Fz H d v → Rd C Fz H k d v
  | 0, d, v, h => h
  | k + 1, d, v, h => by
    cases d with
    | lst ds =>
      simp only [Val] at h
      obtain ⟨p, us, e, f, t, l⟩ := h
      exact ⟨p, us, e, t, pimp (valL_iff.mp l) fun a b => Rd.of_val k a b⟩
    | dct tk ks vs =>
      simp only [Val] at h
      obtain ⟨p, us, e, f, t, l⟩ := h
      exact ⟨p, us, e, t, l⟩
    | ins c fs vs =>
      simp only [Val] at h
      obtain ⟨p, dx, fs', us, e, f, t, q, l⟩ := h
      exact ⟨p, dx, fs', us, e, t, q, l⟩
    | _ => exact h
theorem Rd.le : ∀ (j k : Nat) (d : Mp.D) (v : V), j ≤ k → Rd C Fz H j d v → Rd C Fz H k d v
  | 0, k, d, v, _, h => Rd.of_val k d v h
  | j + 1, 0, d, v, e, h => absurd e (by omega)
  | j + 1, k + 1, d, v, e, h => by
    cases d with
    | lst ds =>
      obtain ⟨p, us, e1, t, l⟩ := h
      exact ⟨p, us, e1, t, pimp l fun a b => Rd.le j k a b (by omega)⟩
    | dct tk ks vs => exact h
    | ins c fs vs => exact h
    | _ => exact h
theorem Rd.lst {k : Nat} {ds : List Mp.D} {v : V} (h : Rd C Fz H k (.lst ds) v) : ∃ p us, v = .ref p ∧ H p = some (.lst us) ∧ Paired (Rd C Fz H (k - 1)) ds us := by
  cases k with
  | zero =>
    have h : Val C Fz H (.lst ds) v := h
    simp only [Val] at h
    obtain ⟨p, us, e, f, t, l⟩ := h
    exact ⟨p, us, e, t, valL_iff.mp l⟩
  | succ k => exact h
theorem Rd.tup {k : Nat} {ds : List Mp.D} {v : V} (h : Rd C Fz H k (.tup ds) v) : ∃ p us, v = .ref p ∧ TupAt C H p us ∧ ValL C Fz H ds us := by
  have h : Val C Fz H (.tup ds) v := by cases k <;> exact h
  simpa only [Val] using h
theorem Rd.dct {k : Nat} {tk : Bool} {ks vs : List Mp.D} {v : V} (h : Rd C Fz H k (.dct tk ks vs) v) : ∃ p us, v = .ref p ∧ DctAt H p tk ks us ∧ ValL C Fz H vs us := by
  cases k with
  | zero =>
    have h : Val C Fz H (.dct tk ks vs) v := h
    simp only [Val] at h
    obtain ⟨p, us, e, f, t, l⟩ := h
    exact ⟨p, us, e, t, l⟩
  | succ k => exact h
theorem Rd.ins {k c : Nat} {fs : List Nat} {vs : List Mp.D} {v : V} (h : Rd C Fz H k (.ins c fs vs) v) : ∃ p dx fs' us, v = .ref p ∧ H p = some (.ins (C.cad c) dx fs') ∧ FsOk C c fs us fs' ∧ ValL C Fz H vs us := by
  cases k with
  | zero =>
    have h : Val C Fz H (.ins c fs vs) v := h
    simp only [Val] at h
    obtain ⟨p, dx, fs', us, e, f, t, q, l⟩ := h
    exact ⟨p, dx, fs', us, e, t, q, l⟩
  | succ k => exact h
theorem Rd.int {k : Nat} {i : Int} {v : V} (h : Rd C Fz H k (.int i) v) : v = .int i := by
  have h : Val C Fz H (.int i) v := by cases k <;> exact h
  simpa only [Val] using h
theorem Rd.bl {k : Nat} {i : Bool} {v : V} (h : Rd C Fz H k (.bl i) v) : v = .bl i := by
  have h : Val C Fz H (.bl i) v := by cases k <;> exact h
  simpa only [Val] using h
theorem Rd.non {k : Nat} {v : V} (h : Rd C Fz H k .non v) : v = .non := by
  have h : Val C Fz H .non v := by cases k <;> exact h
  simpa only [Val] using h
theorem Rd.str {k : Nat} {s : List Nat} {v : V} (h : Rd C Fz H k (.str s) v) : v = .str ⟨s.toArray⟩ := by
  have h : Val C Fz H (.str s) v := by cases k <;> exact h
  simpa only [Val] using h
theorem Rd.scr {k : Nat} {ns : List Int} {v : V} (h : Rd C Fz H k (.scr ns) v) : ∃ p, v = .ref p ∧ SqL C.K (frzOf H) p (ns.map V.int) := by
  have h : Val C Fz H (.scr ns) v := by cases k <;> exact h
  simpa only [Val] using h
theorem Rd.un {k : Nat} {v : V} (h : Rd C Fz H k .un v) : False := by
  have h : Val C Fz H .un v := by cases k <;> exact h
  simp only [Val] at h

/-! ### owned -/
theorem OwL.imp {P Q : Mp.D → V → List Addr → Prop} : ∀ {ds : List Mp.D} {us : List V} {A : List Addr}, OwL P ds us A → (∀ d v B, (∀ a ∈ B, a ∈ A) → P d v B → Q d v B) → OwL Q ds us A
  | [], _, _, h, _ => h
  | d :: ds, us, A, h, f => by
    obtain ⟨u, us', B, B', rfl, rfl, h1, h2⟩ := h
    exact ⟨u, us', B, B', rfl, rfl, f _ _ _ (fun a ha => List.mem_append_left _ ha) h1, OwL.imp h2 fun d v C hC => f d v C fun a ha => List.mem_append_right _ (hC a ha)⟩
theorem OwL.length {P : Mp.D → V → List Addr → Prop} : ∀ {ds : List Mp.D} {us : List V} {A : List Addr}, OwL P ds us A → ds.length = us.length
  | [], _, _, h => by obtain ⟨rfl, _⟩ := h; rfl
  | d :: ds, _, _, h => by
    obtain ⟨u, us', B, B', rfl, _, _, h2⟩ := h
    simp [OwL.length h2]
theorem OwL.paired {P : Mp.D → V → List Addr → Prop} {Q : Mp.D → V → Prop} : ∀ {ds : List Mp.D} {us : List V} {A : List Addr}, OwL P ds us A → (∀ d v B, (∀ a ∈ B, a ∈ A) → P d v B → Q d v) → Paired Q ds us
  | [], _, _, h, _ => by obtain ⟨rfl, _⟩ := h; exact .nil
  | d :: ds, _, _, h, f => by
    obtain ⟨u, us', B, B', rfl, rfl, h1, h2⟩ := h
    exact .cons (f _ _ _ (fun a ha => List.mem_append_left _ ha) h1) (OwL.paired h2 fun d v C hC => f d v C fun a ha => List.mem_append_right _ (hC a ha))
theorem Ow.keep (hs : ∀ a, Fz a → Fz' a) (kp : Keep Fz H H') : ∀ (k : Nat) (d : Mp.D) (v : V) (A : List Addr), (∀ a ∈ A, ∀ o, H a = some o → H' a = some o) → Ow C Fz H k d v A → Ow C Fz' H' k d v A
  | 0, d, v, A, _, h => ⟨Val.keep hs kp d v h.1, h.2⟩
  | k + 1, d, v, A, ha, h => by
    cases d with
    | lst ds =>
      obtain ⟨p, us, B, e, t, rfl, l⟩ := h
      exact ⟨p, us, B, e, ha p List.mem_cons_self _ t, rfl, l.imp fun d v D hD => Ow.keep hs kp k d v D fun a m => ha a (List.mem_cons_of_mem _ (hD a m))⟩
    | dct tk ks vs =>
      obtain ⟨p, us, e, t, rfl, l⟩ := h
      exact ⟨p, us, e, t.mv fun o => ha p List.mem_cons_self o, rfl, ValL.keep hs kp _ _ l⟩
    | ins c fs vs =>
      obtain ⟨p, dx, fs', us, e, t, q, rfl, l⟩ := h
      exact ⟨p, dx, fs', us, e, ha p List.mem_cons_self _ t, q, rfl, ValL.keep hs kp _ _ l⟩
    | _ => exact ⟨Val.keep hs kp _ v h.1, h.2⟩
theorem DctAt.some {p : Addr} {tk : Bool} {ks : List Mp.D} {us : List V} (h : DctAt H p tk ks us) : ∃ o, H p = some o ∧ Mut (some o) := by
  obtain ⟨hl, h⟩ := h
  cases tk with
  | true =>
    obtain ⟨kk, e, h, _⟩ := h
    exact ⟨_, h, True.intro⟩
  | false =>
    obtain ⟨kk, e, h, _⟩ := h
    exact ⟨_, h, True.intro⟩
/-- what is owned is tracked and may be written -/
theorem OwL.all {P : Mp.D → V → List Addr → Prop} {Q : Addr → Prop} : ∀ {ds : List Mp.D} {us : List V} {A : List Addr}, OwL P ds us A → (∀ d v B, P d v B → ∀ a ∈ B, Q a) → ∀ a ∈ A, Q a
  | [], _, _, h, _ => by obtain ⟨_, rfl⟩ := h; intro a ha; cases ha
  | d :: ds, _, _, h, f => by
    obtain ⟨u, us', B, B', rfl, rfl, h1, h2⟩ := h
    intro a ha
    rcases List.mem_append.mp ha with m | m
    · exact f _ _ _ h1 a m
    · exact OwL.all h2 f a m
theorem Ow.mut : ∀ (k : Nat) (d : Mp.D) (v : V) (A : List Addr), Ow C Fz H k d v A → ∀ a ∈ A, ∃ o, H a = some o ∧ Mut (some o)
  | 0, d, v, A, h => by obtain ⟨_, rfl⟩ := h; intro a ha; cases ha
  | k + 1, d, v, A, h => by
    cases d with
    | lst ds =>
      obtain ⟨p, us, B, e, t, rfl, l⟩ := h
      intro a ha
      rcases List.mem_cons.mp ha with rfl | m
      · exact ⟨_, t, True.intro⟩
      · exact l.all (fun d v B => Ow.mut k d v B) a m
    | dct tk ks vs =>
      obtain ⟨p, us, e, t, rfl, l⟩ := h
      intro a ha
      obtain rfl : a = p := by simpa using ha
      exact t.some
    | ins c fs vs =>
      obtain ⟨p, dx, fs', us, e, t, q, rfl, l⟩ := h
      intro a ha
      obtain rfl : a = p := by simpa using ha
      exact ⟨_, t, True.intro⟩
    | _ => obtain ⟨_, rfl⟩ := h; intro a ha; cases ha
/-- given up -/
theorem Ow.freeze (hs : ∀ a, Fz a → Fz' a) : ∀ (k : Nat) (d : Mp.D) (v : V) (A : List Addr), (∀ a ∈ A, Fz' a) → Ow C Fz H k d v A → Val C Fz' H d v
  | 0, d, v, A, _, h => Val.keep hs (.of (Same.refl H)) d v h.1
  | k + 1, d, v, A, ha, h => by
    cases d with
    | lst ds =>
      obtain ⟨p, us, B, e, t, rfl, l⟩ := h
      simp only [Val]
      exact ⟨p, us, e, ha p List.mem_cons_self, t, valL_iff.mpr (l.paired fun d v D hD => Ow.freeze hs k d v D fun a m => ha a (List.mem_cons_of_mem _ (hD a m)))⟩
    | dct tk ks vs =>
      obtain ⟨p, us, e, t, rfl, l⟩ := h
      simp only [Val]
      exact ⟨p, us, e, ha p List.mem_cons_self, t, ValL.keep hs (.of (Same.refl H)) _ _ l⟩
    | ins c fs vs =>
      obtain ⟨p, dx, fs', us, e, t, q, rfl, l⟩ := h
      simp only [Val]
      exact ⟨p, dx, fs', us, e, ha p List.mem_cons_self, t, q, ValL.keep hs (.of (Same.refl H)) _ _ l⟩
    | _ => exact Val.keep hs (.of (Same.refl H)) _ v h.1
theorem Ow.rd : ∀ (k : Nat) (d : Mp.D) (v : V) (A : List Addr), Ow C Fz H k d v A → Rd C Fz H k d v
  | 0, d, v, A, h => h.1
  | k + 1, d, v, A, h => by
    cases d with
    | lst ds =>
      obtain ⟨p, us, B, e, t, rfl, l⟩ := h
      exact ⟨p, us, e, t, l.paired fun d v D _ => Ow.rd k d v D⟩
    | dct tk ks vs =>
      obtain ⟨p, us, e, t, rfl, l⟩ := h
      exact ⟨p, us, e, t, l⟩
    | ins c fs vs =>
      obtain ⟨p, dx, fs', us, e, t, q, rfl, l⟩ := h
      exact ⟨p, dx, fs', us, e, t, q, l⟩
    | _ => exact h.1
/-- owned less deep: what is given up is frozen -/
theorem OwL.less {P : Mp.D → V → List Addr → Prop} {Q : (Addr → Prop) → Mp.D → V → List Addr → Prop} {ok : (Addr → Prop) → Prop} : ∀ {ds : List Mp.D} {us : List V} {A : List Addr}, OwL P ds us A →
    (∀ d v B, (∀ a ∈ B, a ∈ A) → P d v B → ∃ B1 : List Addr, B1.Sublist B ∧ ∀ R : Addr → Prop, ok R → (∀ a ∈ B, a ∉ B1 → R a) → Q R d v B1) → A.Nodup →
    ∃ A1 : List Addr, A1.Sublist A ∧ ∀ R : Addr → Prop, ok R → (∀ a ∈ A, a ∉ A1 → R a) → OwL (Q R) ds us A1
  | [], _, _, h, _, _ => by obtain ⟨rfl, rfl⟩ := h; exact ⟨[], List.Sublist.refl _, fun _ _ _ => ⟨rfl, rfl⟩⟩
  | d :: ds, _, _, h, f, nd => by
    obtain ⟨u, us', B, B', rfl, rfl, h1, h2⟩ := h
    obtain ⟨n1, n2, n3⟩ := List.nodup_append.mp nd
    obtain ⟨B1, s1, q1⟩ := f _ _ _ (fun a ha => List.mem_append_left _ ha) h1
    obtain ⟨B2, s2, q2⟩ := OwL.less (Q := Q) (ok := ok) h2 (fun d v C hC => f d v C fun a ha => List.mem_append_right _ (hC a ha)) n2
    refine ⟨B1 ++ B2, s1.append s2, fun R ho hR => ⟨u, us', B1, B2, rfl, rfl, q1 R ho fun a ha hn => hR a (List.mem_append_left _ ha) fun m => ?_, q2 R ho fun a ha hn => hR a (List.mem_append_right _ ha) fun m => ?_⟩⟩
    · rcases List.mem_append.mp m with m | m
      · exact hn m
      · exact n3 a ha a (s2.subset m) rfl
    · rcases List.mem_append.mp m with m | m
      · exact n3 a (s1.subset m) a ha rfl
      · exact hn m
theorem OwL.nodup {P : Mp.D → V → List Addr → Prop} : ∀ {ds : List Mp.D} {us : List V} {A : List Addr}, OwL P ds us A → A.Nodup → OwL (fun d v B => P d v B ∧ B.Nodup) ds us A
  | [], _, _, h, _ => h
  | d :: ds, _, _, h, nd => by
    obtain ⟨u, us', B, B', rfl, rfl, h1, h2⟩ := h
    obtain ⟨n1, n2, n3⟩ := List.nodup_append.mp nd
    exact ⟨u, us', B, B', rfl, rfl, ⟨h1, n1⟩, OwL.nodup h2 n2⟩
theorem Ow.less : ∀ (j k : Nat) (d : Mp.D) (v : V) (A : List Addr), j ≤ k → A.Nodup → Ow C Fz H k d v A →
    ∃ A1 : List Addr, A1.Sublist A ∧ ∀ R : Addr → Prop, (∀ a, Fz a → R a) → (∀ a ∈ A, a ∉ A1 → R a) → Ow C R H j d v A1
  | 0, k, d, v, A, _, _, h => ⟨[], List.nil_sublist _, fun R hs hR => ⟨Ow.freeze hs k d v A (fun a ha => hR a ha (by simp)) h, rfl⟩⟩
  | j + 1, 0, _, _, _, e, _, _ => absurd e (by omega)
  | j + 1, k + 1, d, v, A, e, nd, h => by
    cases d with
    | lst ds =>
      obtain ⟨p, us, B, rfl, t, rfl, l⟩ := h
      obtain ⟨n1, n2⟩ := List.nodup_cons.mp nd
      obtain ⟨B1, s1, q1⟩ := (l.nodup n2).less (Q := fun R => Ow C R H j) (ok := fun R => ∀ a, Fz a → R a) (fun d v D _ hd => Ow.less j k d v D (by omega) hd.2 hd.1) n2
      refine ⟨p :: B1, s1.cons₂ p, fun R hs hR => ⟨p, us, B1, rfl, t, rfl, q1 R hs fun a ha hn => hR a (List.mem_cons_of_mem _ ha) fun m => ?_⟩⟩
      rcases List.mem_cons.mp m with rfl | m
      · exact n1 ha
      · exact hn m
    | dct tk ks vs =>
      obtain ⟨p, us, e, t, rfl, l⟩ := h
      exact ⟨[p], List.Sublist.refl _, fun R hs _ => ⟨p, us, e, t, rfl, ValL.keep hs (.of (Same.refl H)) _ _ l⟩⟩
    | ins c fs vs =>
      obtain ⟨p, dx, fs', us, e, t, q, rfl, l⟩ := h
      exact ⟨[p], List.Sublist.refl _, fun R hs _ => ⟨p, dx, fs', us, e, t, q, rfl, ValL.keep hs (.of (Same.refl H)) _ _ l⟩⟩
    | _ =>
      obtain ⟨h, rfl⟩ := h
      exact ⟨[], List.Sublist.refl _, fun R hs _ => ⟨Val.keep hs (.of (Same.refl H)) _ v h, rfl⟩⟩
end

/-! ### the frame -/
/-- fr frozen, bw borrowed, ow owned, sf self in __init__, al a name for an item of the list in slot b, jk nothing known, ex the exception that the suite holds -/
inductive Md where | fr | bw (k : Nat) | ow (k : Nat) | sf | al (b : Nat) | jk | ex
  deriving DecidableEq

def SlotOk (C : Cfg) (Fz : Addr → Prop) (Hr H : Hp) (m : Md) (d : Mp.D) (o : Option V) (A : List Addr) : Prop :=
  (d = .un ∧ A = []) ∨ ∃ v, o = some v ∧ match m with
    | .fr => Val C Fz H d v ∧ A = []
    | .bw k => Rd C Fz Hr k d v ∧ A = []
    | .ow k => Ow C Fz H k d v A
    | .sf => v = .ref C.cur.pin ∧ Ow C Fz H 1 d v A
    | .al _ => A = []
    | .jk => A = []
    | .ex => v = .ref C.cur.xa ∧ XRep C Fz H d C.cur.xc C.cur.xd ∧ A = []
/-- slot i names an item of the list in slot b -/
def AlOk (env : List Mp.D) (σ : L2.St) (H : Hp) (i b : Nat) : Prop := env[i]? = some .un ∨ env[b]? = some .un ∨
  ∃ (j : Nat) (p : Addr) (us : List V) (u : V) (xs : List Mp.D), env[i]? = some (.int (j : Int)) ∧ σ[i]? = some (some u) ∧ env[b]? = some (.lst xs) ∧ σ[b]? = some (some (.ref p)) ∧ H p = some (.lst us) ∧ us[j]? = some u
def solid : Md → Bool
  | .al _ => false
  | .jk => false
  | .ex => false
  | _ => true
def noAl (G : List Md) (i : Nat) : Bool := G.all fun m => !(m == Md.al i)
theorem noAl_at {G : List Md} {i k : Nat} (h : noAl G i = true) : G[k]? ≠ some (.al i) := fun e => by
  have := List.all_eq_true.mp h _ (List.mem_of_getElem? e)
  simp at this
/-- the heap has grown, more is frozen -/
structure Ext (F : Addr → Prop) (H : Hp) (F' : Addr → Prop) (H' : Hp) : Prop where
  same : Same H H'
  sub : ∀ a, F a → F' a
  new : ∀ a, F' a → F a ∨ H a = none
  trk : ∀ a, F' a → ∃ o, H' a = some o
structure BI (C : Cfg) (G : List Md) (F0 Fz : Addr → Prop) (Hr : Hp) (env : List Mp.D) (σ : L2.St) (H : Hp) (As : Nat → List Addr) : Prop where
  l1 : G.length = σ.length
  l2 : env.length = σ.length
  slot : ∀ i m d o, G[i]? = some m → env[i]? = some d → σ[i]? = some o → SlotOk C Fz Hr H m d o (As i)
  far : ∀ i, σ.length ≤ i → As i = []
  nd : ∀ i, (As i).Nodup
  dj : ∀ i j a, a ∈ As i → a ∈ As j → i = j
  own : ∀ i a, a ∈ As i → ¬ Fz a ∧ Hr a = none
  al : ∀ i b m, G[i]? = some (.al b) → G[b]? = some m → solid m = true → AlOk env σ H i b
  ext : Ext F0 Hr Fz H

section
variable {C : Cfg} {G G' : List Md} {F0 Fz Fz' Fz2 : Addr → Prop} {Hr H H' H2 : Hp} {env : List Mp.D} {σ : L2.St} {As : Nat → List Addr}
theorem Ext.refl (h : ∀ a, Fz a → ∃ o, H a = some o) : Ext Fz H Fz H := ⟨Same.refl H, fun _ h => h, fun _ h => .inl h, h⟩
theorem Ext.trans (a : Ext Fz H Fz' H') (b : Ext Fz' H' Fz2 H2) : Ext Fz H Fz2 H2 where
  same := a.same.trans b.same
  sub := fun x h => b.sub x (a.sub x h)
  new := fun x h => by
    rcases b.new x h with q | q
    · exact a.new x q
    · exact .inr (a.same.free q)
  trk := b.trk
theorem SlotOk.mut {m : Md} {d : Mp.D} {o : Option V} {A : List Addr} (h : SlotOk C Fz Hr H m d o A) : ∀ a ∈ A, ∃ o, H a = some o ∧ Mut (some o) := by
  rcases h with ⟨_, rfl⟩ | ⟨v, _, h⟩
  · intro a ha; cases ha
  · cases m with
    | fr => obtain ⟨_, rfl⟩ := h; intro a ha; cases ha
    | bw k => obtain ⟨_, rfl⟩ := h; intro a ha; cases ha
    | ow k => exact Ow.mut k d v A h
    | sf => exact Ow.mut 1 d v A h.2
    | al b => obtain rfl := h; intro a ha; cases ha
    | jk => obtain rfl := h; intro a ha; cases ha
    | ex => obtain ⟨_, _, rfl⟩ := h; intro a ha; cases ha
theorem AlOk.heap {i b : Nat} (h : AlOk env σ H i b) (k : ∀ p us xs, env[b]? = some (.lst xs) → σ[b]? = some (some (.ref p)) → H p = some (.lst us) → ∃ us', H' p = some (.lst us') ∧ ∀ (j : Nat) (u : V), us[j]? = some u → us'[j]? = some u) : AlOk env σ H' i b := by
  rcases h with h | h | ⟨j, p, us, u, xs, h1, h2, hx, h3, h4, h5⟩
  · exact .inl h
  · exact .inr (.inl h)
  · obtain ⟨us', e1, e2⟩ := k p us xs hx h3 h4
    exact .inr (.inr ⟨j, p, us', u, xs, h1, h2, hx, h3, e1, e2 j u h5⟩)
theorem AlOk.same {i b : Nat} (h : AlOk env σ H i b) (s : Same H H') : AlOk env σ H' i b := h.heap fun p us _ _ _ e => ⟨us, s _ _ e, fun _ _ h => h⟩
/-- where a slot's list stands -/
theorem BI.root (b : BI C G F0 Fz Hr env σ H As) {k : Nat} {m : Md} {p : Addr} {xs : List Mp.D} (hm : G[k]? = some m) (hs : solid m = true) (he : env[k]? = some (.lst xs)) (hv : σ[k]? = some (some (.ref p))) : p ∈ As k ∨ Fz p ∨ ∃ o, Hr p = some o := by
  rcases b.slot k m _ _ hm he hv with ⟨q, _⟩ | ⟨v, e, q⟩
  · cases q
  · cases e
    cases m with
    | fr =>
      have h := q.1
      simp only [Val] at h
      obtain ⟨p', us, e, f, _⟩ := h
      cases e
      exact .inr (.inl f)
    | bw j =>
      cases j with
      | zero =>
        have h : Val C Fz Hr (.lst xs) (.ref p) := q.1
        simp only [Val] at h
        obtain ⟨p', us, e, f, _⟩ := h
        cases e
        exact .inr (.inl f)
      | succ j =>
        obtain ⟨p', us, e, f, _⟩ := q.1
        cases e
        exact .inr (.inr ⟨_, f⟩)
    | ow j =>
      cases j with
      | zero =>
        have h : Val C Fz H (.lst xs) (.ref p) := q.1
        simp only [Val] at h
        obtain ⟨p', us, e, f, _⟩ := h
        cases e
        exact .inr (.inl f)
      | succ j =>
        obtain ⟨p', us, B, e, f, h, _⟩ := q
        cases e
        exact .inl (by rw [h]; exact List.mem_cons_self)
    | sf =>
      obtain ⟨p', us, B, e, f, h, _⟩ := q.2
      cases e
      exact .inl (by rw [h]; exact List.mem_cons_self)
    | al j => cases hs
    | jk => cases hs
    | ex => cases hs
theorem BI.mut (b : BI C G F0 Fz Hr env σ H As) : ∀ i a, a ∈ As i → ∃ o, H a = some o ∧ Mut (some o) := fun i a ha => by
  by_cases hi : i < σ.length
  · have h1 : i < G.length := by rw [b.l1]; exact hi
    have h2 : i < env.length := by rw [b.l2]; exact hi
    exact (b.slot i G[i] env[i] σ[i] (List.getElem?_eq_getElem h1) (List.getElem?_eq_getElem h2) (List.getElem?_eq_getElem hi)).mut a ha
  · rw [b.far i (by omega)] at ha; cases ha
/-- behind an expression -/
theorem BI.grow (b : BI C G F0 Fz Hr env σ H As) (e : Ext Fz H Fz' H') : BI C G F0 Fz' Hr env σ H' As where
  l1 := b.l1
  l2 := b.l2
  slot := fun i m d o h1 h2 h3 => by
    rcases b.slot i m d o h1 h2 h3 with q | ⟨v, rfl, q⟩
    · exact .inl q
    · refine .inr ⟨v, rfl, ?_⟩
      cases m with
      | fr => exact ⟨Val.keep e.sub (.of e.same) d v q.1, q.2⟩
      | bw k => exact ⟨Rd.same (Same.refl Hr) e.sub k d v q.1, q.2⟩
      | ow k => exact Ow.keep e.sub (.of e.same) k d v _ (fun a _ o h => e.same a o h) q
      | sf => exact ⟨q.1, Ow.keep e.sub (.of e.same) 1 d v _ (fun a _ o h => e.same a o h) q.2⟩
      | al b => exact q
      | jk => exact q
      | ex => exact ⟨q.1, q.2.1.keep e.sub (.of e.same), q.2.2⟩
  al := fun i k m h1 h2 h3 => (b.al i k m h1 h2 h3).same e.same
  far := b.far
  nd := b.nd
  dj := b.dj
  own := fun i a ha => by
    obtain ⟨h1, h2⟩ := b.own i a ha
    refine ⟨fun z => ?_, h2⟩
    rcases e.new a z with q | q
    · exact h1 q
    · obtain ⟨o, ho, _⟩ := b.mut i a ha
      rw [q] at ho; cases ho
  ext := b.ext.trans e
/-- a slot that holds something -/
theorem BI.look (b : BI C G F0 Fz Hr env σ H As) {i : Nat} {m : Md} {d : Mp.D} (h1 : G[i]? = some m) (h2 : env[i]? = some d) (hd : d ≠ .un) :
    ∃ v, σ[i]? = some (some v) ∧ match m with
      | .fr => Val C Fz H d v
      | .bw k => Rd C Fz H k d v
      | .ow k => Ow C Fz H k d v (As i)
      | .sf => v = .ref C.cur.pin ∧ Ow C Fz H 1 d v (As i)
      | .ex => v = .ref C.cur.xa ∧ XRep C Fz H d C.cur.xc C.cur.xd
      | _ => True := by
  have hi : i < σ.length := by rw [← b.l2]; exact (List.getElem?_eq_some_iff.mp h2).1
  rcases b.slot i m d σ[i] h1 h2 (List.getElem?_eq_getElem hi) with ⟨q, _⟩ | ⟨v, e, q⟩
  · exact absurd q hd
  · refine ⟨v, by rw [List.getElem?_eq_getElem hi, e], ?_⟩
    cases m with
    | fr => exact q.1
    | bw k => exact Rd.same b.ext.same (fun _ h => h) k d v q.1
    | ow k => exact q
    | sf => exact q
    | al b => trivial
    | jk => trivial
    | ex => exact ⟨q.1, q.2.1⟩
/-- a slot is set -/
theorem BI.put (b : BI C G F0 Fz Hr env σ H As) {i : Nat} {m : Md} {d : Mp.D} {v : V} {A : List Addr} (hi : i < σ.length)
    (hs : SlotOk C Fz Hr H m d (some v) A) (hn : A.Nodup) (ho : ∀ a ∈ A, ¬ Fz a ∧ Hr a = none) (hj : ∀ j a, j ≠ i → a ∈ A → a ∉ As j)
    (na : ∀ k, k ≠ i → G[k]? ≠ some (.al i)) (nm : ∀ k, m = .al k → AlOk (env.set i d) (σ.set i (some v)) H i k) :
    BI C (G.set i m) F0 Fz Hr (env.set i d) (σ.set i (some v)) H (fun j => if j = i then A else As j) where
  l1 := by simpa using b.l1
  l2 := by simpa using b.l2
  al := fun j k m1 h g1 g2 => by
    by_cases e : j = i
    · subst e
      have h1' : j < G.length := by rw [b.l1]; exact hi
      rw [List.getElem?_set_self h1'] at h
      cases h
      exact nm k rfl
    · rw [List.getElem?_set_ne (Ne.symm e)] at h
      have hk : k ≠ i := fun z => na j e (by rw [h, z])
      rw [List.getElem?_set_ne (Ne.symm hk)] at g1
      have := b.al j k m1 h g1 g2
      unfold AlOk at this ⊢
      rw [List.getElem?_set_ne (Ne.symm e), List.getElem?_set_ne (Ne.symm e), List.getElem?_set_ne (Ne.symm hk), List.getElem?_set_ne (Ne.symm hk)]
      exact this
  slot := fun j m' d' o' h1 h2 h3 => by
    by_cases e : j = i
    · subst e
      have h1' : j < G.length := by rw [b.l1]; exact hi
      have h2' : j < env.length := by rw [b.l2]; exact hi
      rw [List.getElem?_set_self h1'] at h1
      rw [List.getElem?_set_self h2'] at h2
      rw [List.getElem?_set_self hi] at h3
      cases h1; cases h2; cases h3
      simp only [if_true]
      exact hs
    · rw [List.getElem?_set_ne (Ne.symm e)] at h1 h2 h3
      rw [if_neg e]
      exact b.slot j m' d' o' h1 h2 h3
  far := fun j hj' => by
    rw [List.length_set] at hj'
    show (if j = i then A else As j) = []
    rw [if_neg (by omega)]
    exact b.far j hj'
  nd := fun j => by
    show (if j = i then A else As j).Nodup
    split
    · exact hn
    · exact b.nd j
  dj := fun j k a h1 h2 => by
    have h1 : a ∈ (if j = i then A else As j) := h1
    have h2 : a ∈ (if k = i then A else As k) := h2
    by_cases ej : j = i
    · by_cases ek : k = i
      · omega
      · rw [if_pos ej] at h1
        rw [if_neg ek] at h2
        exact absurd h2 (hj k a ek h1)
    · by_cases ek : k = i
      · rw [if_neg ej] at h1
        rw [if_pos ek] at h2
        exact absurd h1 (hj j a ej h2)
      · rw [if_neg ej] at h1
        rw [if_neg ek] at h2
        exact b.dj j k a h1 h2
  own := fun j a h => by
    have h : a ∈ (if j = i then A else As j) := h
    split at h
    · exact ho a h
    · exact b.own j a h
  ext := b.ext
/-- lower modes -/
def lowM : Md → Md → Bool
  | .fr, .fr => true
  | .bw k, .bw j => j == k
  | .ow _, .fr => true
  | .ow k, .ow j => decide (j ≤ k)
  | .sf, .sf => true
  | .al b, .al c => b == c
  | .ex, .ex => true
  | .sf, .jk => false
  | _, .jk => true
  | _, _ => false
def lowG : List Md → List Md → Bool
  | [], [] => true
  | a :: as, b :: bs => lowM a b && lowG as bs
  | _, _ => false
theorem lowG_at : ∀ {G G' : List Md}, lowG G G' = true → G'.length = G.length ∧ ∀ (i : Nat) (m' : Md), G'[i]? = some m' → ∃ m, G[i]? = some m ∧ lowM m m' = true
  | [], [], _ => ⟨rfl, fun i m' h => by simp at h⟩
  | [], _ :: _, h => by simp [lowG] at h
  | _ :: _, [], h => by simp [lowG] at h
  | a :: as, b :: bs, h => by
    simp only [lowG, Bool.and_eq_true] at h
    obtain ⟨l, q⟩ := lowG_at h.2
    refine ⟨by simp [l], fun i m' e => ?_⟩
    cases i with
    | zero => simp at e; subst e; exact ⟨a, by simp, h.1⟩
    | succ i => simpa using q i m' (by simpa using e)
theorem lowM_ow {m : Md} {j : Nat} (h : lowM m (.ow j) = true) : ∃ k, m = .ow k ∧ j ≤ k := by
  cases m with
  | fr => cases h
  | bw k => cases h
  | ow k => exact ⟨k, rfl, of_decide_eq_true h⟩
  | sf => cases h
  | al b => cases h
  | jk => cases h
  | ex => cases h
theorem lowM_solid {m m' : Md} (h : lowM m m' = true) (hs : solid m' = true) : solid m = true := by
  cases m <;> cases m' <;> first | rfl | (cases h; done) | (cases hs; done)
theorem lowM_al {m : Md} {b : Nat} (h : lowM m (.al b) = true) : m = .al b := by
  cases m with
  | al c => have e : c = b := by simpa [lowM] using h
            rw [e]
  | _ => cases h
theorem SlotOk.low {m m' : Md} {d : Mp.D} {o : Option V} {A : List Addr} (h : SlotOk C Fz Hr H m d o A) (hm : lowM m m' = true) (nd : A.Nodup) :
    ∃ A1 : List Addr, A1.Sublist A ∧ ∀ Fz' : Addr → Prop, (∀ a, Fz a → Fz' a) → (∀ a ∈ A, a ∉ A1 → Fz' a) → SlotOk C Fz' Hr H m' d o A1 := by
  rcases h with ⟨rfl, rfl⟩ | ⟨v, rfl, h⟩
  · exact ⟨[], List.Sublist.refl _, fun _ _ _ => .inl ⟨rfl, rfl⟩⟩
  · cases m with
    | fr =>
      cases m' with
      | fr => obtain ⟨h, rfl⟩ := h; exact ⟨[], List.Sublist.refl _, fun _ hs _ => .inr ⟨v, rfl, Val.keep hs (.of (Same.refl H)) d v h, rfl⟩⟩
      | jk => obtain ⟨h, rfl⟩ := h; exact ⟨[], List.Sublist.refl _, fun _ hs _ => .inr ⟨v, rfl, rfl⟩⟩
      | _ => cases hm
    | al b => obtain rfl := h; exact ⟨[], List.Sublist.refl _, fun _ hs _ => .inr ⟨v, rfl, by
        cases m' with
        | al c => rfl
        | jk => rfl
        | _ => cases hm⟩⟩
    | jk => obtain rfl := h; exact ⟨[], List.Sublist.refl _, fun _ hs _ => .inr ⟨v, rfl, by
        cases m' with
        | jk => rfl
        | _ => cases hm⟩⟩
    | ex =>
      obtain ⟨h1, h2, rfl⟩ := h
      exact ⟨[], List.Sublist.refl _, fun _ hs _ => .inr ⟨v, rfl, by
        cases m' with
        | jk => rfl
        | ex => exact ⟨h1, h2.keep hs (.of (Same.refl H)), rfl⟩
        | _ => cases hm⟩⟩
    | sf =>
      cases m' with
      | sf => exact ⟨A, List.Sublist.refl _, fun _ hs _ => .inr ⟨v, rfl, h.1, Ow.keep hs (.of (Same.refl H)) 1 d v A (fun a _ o e => e) h.2⟩⟩
      | _ => cases hm
    | bw k =>
      cases m' with
      | fr => cases hm
      | bw j =>
        obtain ⟨h, rfl⟩ := h
        have e : j = k := by simpa [lowM] using hm
        subst e
        exact ⟨[], List.Sublist.refl _, fun _ hs _ => .inr ⟨v, rfl, Rd.same (Same.refl Hr) hs _ d v h, rfl⟩⟩
      | jk => obtain ⟨h, rfl⟩ := h; exact ⟨[], List.Sublist.refl _, fun _ hs _ => .inr ⟨v, rfl, rfl⟩⟩
      | _ => cases hm
    | ow k =>
      cases m' with
      | fr => exact ⟨[], List.nil_sublist _, fun Fz' hs hR => .inr ⟨v, rfl, Ow.freeze hs k d v A (fun a ha => hR a ha (by simp)) h, rfl⟩⟩
      | jk => exact ⟨[], List.nil_sublist _, fun Fz' hs hR => .inr ⟨v, rfl, rfl⟩⟩
      | bw j => cases hm
      | sf => cases hm
      | al j => cases hm
      | ex => cases hm
      | ow j =>
        obtain ⟨A1, s1, q⟩ := Ow.less j k d v A (of_decide_eq_true hm) nd (show Ow C Fz H k d v A from h)
        exact ⟨A1, s1, fun Fz' hs hR => .inr ⟨v, rfl, q Fz' hs hR⟩⟩
/-- the modes are lowered: what is given up is frozen -/
theorem BI.low (b : BI C G F0 Fz Hr env σ H As) (hg : lowG G G' = true) : ∃ Fz' As', BI C G' F0 Fz' Hr env σ H As' ∧ (∀ a, Fz a → Fz' a) ∧ (∀ a, Fz' a → Fz a ∨ Hr a = none) := by
  obtain ⟨hl, hat⟩ := lowG_at hg
  have one : ∀ i, ∃ A1 : List Addr, A1.Sublist (As i) ∧ ∀ Fz' : Addr → Prop, (∀ a, Fz a → Fz' a) → (∀ a ∈ As i, a ∉ A1 → Fz' a) → ∀ m' d o, G'[i]? = some m' → env[i]? = some d → σ[i]? = some o → SlotOk C Fz' Hr H m' d o A1 := fun i => by
    by_cases hi : i < σ.length
    · have h1 : i < G'.length := by rw [hl, b.l1]; exact hi
      have h2 : i < env.length := by rw [b.l2]; exact hi
      obtain ⟨m, e1, hm⟩ := hat i G'[i] (List.getElem?_eq_getElem h1)
      obtain ⟨A1, s1, q⟩ := (b.slot i m env[i] σ[i] e1 (List.getElem?_eq_getElem h2) (List.getElem?_eq_getElem hi)).low hm (b.nd i)
      refine ⟨A1, s1, fun Fz' hs hR m' d o g1 g2 g3 => ?_⟩
      rw [List.getElem?_eq_getElem h1] at g1
      rw [List.getElem?_eq_getElem h2] at g2
      rw [List.getElem?_eq_getElem hi] at g3
      cases g1; cases g2; cases g3
      exact q Fz' hs hR
    · refine ⟨As i, List.Sublist.refl _, fun _ _ _ m' d o _ _ g3 => ?_⟩
      rw [List.getElem?_eq_none (by omega)] at g3; cases g3
  let As' : Nat → List Addr := fun i => Classical.choose (one i)
  have hA : ∀ i, (As' i).Sublist (As i) ∧ _ := fun i => Classical.choose_spec (one i)
  let Fz' : Addr → Prop := fun a => Fz a ∨ ∃ i, a ∈ As i ∧ a ∉ As' i
  refine ⟨Fz', As', ⟨by rw [hl, b.l1], b.l2, fun i m' d o g1 g2 g3 => ?_, fun i hi => ?_, fun i => (b.nd i).sublist (hA i).1, fun i j a h1 h2 => b.dj i j a ((hA i).1.subset h1) ((hA j).1.subset h2), fun i a h => ?_, fun i k m' h g1 g2 => ?_, ?_⟩, fun a h => .inl h, fun a h => ?_⟩
  · exact (hA i).2 Fz' (fun a h => .inl h) (fun a h1 h2 => .inr ⟨i, h1, h2⟩) m' d o g1 g2 g3
  · have := (hA i).1
    rw [b.far i hi] at this
    exact List.sublist_nil.mp this
  · obtain ⟨h1, h2⟩ := b.own i a ((hA i).1.subset h)
    refine ⟨fun z => ?_, h2⟩
    rcases z with z | ⟨j, hj, hn⟩
    · exact h1 z
    · have e := b.dj i j a ((hA i).1.subset h) hj
      subst e
      exact hn h
  · obtain ⟨m, e1, e2⟩ := hat i _ h
    rw [lowM_al e2] at e1
    obtain ⟨m, e3, e4⟩ := hat k _ g1
    exact b.al i k m e1 e3 (lowM_solid e4 g2)
  · refine ⟨b.ext.same, fun a h => .inl (b.ext.sub a h), fun a h => ?_, fun a h => ?_⟩
    · rcases h with h | ⟨i, hi, _⟩
      · exact b.ext.new a h
      · exact .inr (b.own i a hi).2
    · rcases h with h | ⟨i, hi, _⟩
      · exact b.ext.trk a h
      · obtain ⟨o, ho, _⟩ := b.mut i a hi
        exact ⟨o, ho⟩
  · rcases h with h | ⟨i, hi, _⟩
    · exact .inl h
    · exact .inr (b.own i a hi).2
end
end MpS

/-! MpC: from Python's syntax to Mp's; the check of modes. -/
namespace MpS
open PySem

/-- a def of the module: its name, what it is here, how high it calls -/
structure Ent where
  nm : Str
  f : Mp.F
  lv : Nat
/-- a class or a method -/
structure EntC where
  nm : Str
  c : Nat
  f : Mp.F
  lv : Nat
/-- an exception's class: its name, its number, the fields that its __init__ stores, what its message tells -/
structure EntX where
  nm : Str
  c : Nat
  fs : List Nat
  fm : List Bool
structure Tb where
  FN : List Str
  fns : List Ent
  cls : List EntC
  mts : List EntC
  eqs : List (Nat × Mp.F × Nat)
  ins : List (Nat × Mp.F × Nat)
  kcl : List (Str × Nat)
  xcl : List EntX
  /-- the exceptions' base of the module -/
  xbs : List (Str × Nat)
/-- what one def's text is read with -/
structure Tc where
  T : Tb
  N : List Str
  lv : Nat
  slf : Option Str
  /-- the classes that methods and operators belong to in this def -/
  hint : List (Str × Nat)
  /-- names for items of another name's list -/
  al : List (Str × Str)
  /-- names of caught exceptions -/
  xn : List Str
  /-- within an except suite -/
  hot : Bool

def ixOf (x : Str) : List Str → Nat → Option Nat
  | [], _ => none
  | y :: ys, k => if y = x then some k else ixOf x ys (k + 1)
def slotOf (t : Tc) (sc : Scope) (x : Str) : Option Nat := match sc.names.lookup x with
  | some .local => ixOf x t.N 0
  | some .cell => ixOf x t.N 0
  | some .free => ixOf x t.N 0
  | _ => none
def slotLoc (t : Tc) (sc : Scope) (x : Str) : Option Nat := match sc.names.lookup x with
  | some .local => ixOf x t.N 0
  | some .cell => ixOf x t.N 0
  | _ => none
def isGl (sc : Scope) (x : Str) : Bool := match sc.names.lookup x with
  | some .globalImplicit => true
  | _ => false
def entOf (x : Str) : List Ent → Option Ent
  | [] => none
  | e :: es => if e.nm = x then some e else entOf x es
def entCOf (x : Str) : List EntC → Option EntC
  | [] => none
  | e :: es => if e.nm = x then some e else entCOf x es
def entXOf (x : Str) : List EntX → Option EntX
  | [] => none
  | e :: es => if e.nm = x then some e else entXOf x es
/-- a class in an except clause -/
def xkOf (T : Tb) (x : Str) : Option Nat := match entXOf x T.xcl with
  | some e => some e.c
  | none => T.xbs.lookup x
/-- .. in isinstance -/
def xiOf (T : Tb) (x : Str) : Option Nat := match xkOf T x with
  | some k => some k
  | none => if x = "ValueError" then some 998 else none
def methOf (t : Tc) (m : Str) : Option EntC := match t.hint.lookup m with
  | some c => t.T.mts.find? fun e => e.nm = m && e.c == c
  | none => entCOf m t.T.mts
def opOf : Operator → Option Mp.Op
  | .Add => some .add
  | .Sub => some .sub
  | .Mult => some .mul
  | .FloorDiv => some .fdiv
  | .Mod => some .mod
  | .Pow => some .pow
  | _ => none
def cpOf : CmpOp → Option Mp.Cp
  | .Eq => some .eq
  | .NotEq => some .ne
  | .Lt => some .lt
  | .LtE => some .le
  | .Gt => some .gt
  | .GtE => some .ge
  | .In => some .mem
  | .NotIn => some .nmem
  | _ => none
def bltOf (x : Str) : Option Mp.Blt :=
  if x = "len" then some .len else if x = "int" then some .int else if x = "list" then some .list else if x = "tuple" then some .tuple
  else if x = "sum" then some .sum else if x = "min" then some .min else if x = "max" then some .max else if x = "sorted" then some .sorted
  else if x = "abs" then some .abs else none
def tyOf (T : Tb) (x : Str) : Option Mp.Ty :=
  if x = "int" then some .int else if x = "bool" then some .bool else if x = "list" then some .list else if x = "tuple" then some .tuple
  else if x = "str" then some .str else (T.kcl.lookup x).map .cls
def nmOf : Expr → Option Str
  | .Name x _ => some x
  | _ => none
def nmsOf : List Expr → Option (List Str)
  | [] => some []
  | e :: es => match nmOf e, nmsOf es with
    | some x, some xs => some (x :: xs)
    | _, _ => none
/-- a target: a name, or a tuple of names -/
def tgOf : Expr → Option (List Str)
  | .Name x _ => some [x]
  | .Tuple es _ _ => match nmsOf es with
    | some [] => none
    | some [_] => none
    | o => o
  | _ => none
/-- what is no call without arguments (of super) -/
def noCall0 : Expr → Bool
  | .Call (.Name _ _) [] [] _ => false
  | _ => true
def mapO {a b : Type} (f : a → Option b) : List a → Option (List b)
  | [] => some []
  | x :: xs => match f x, mapO f xs with
    | some y, some ys => some (y :: ys)
    | _, _ => none
/-- the same names, one behind another -/
def twice : List Nat → Bool
  | [] => false
  | i :: is => is.contains i || twice is

/-- in a chain -/
def cpI : CmpOp → Option Mp.Cp
  | .Lt => some .lt
  | .LtE => some .le
  | _ => none
def isTuple : Expr → Bool
  | .Tuple _ _ _ => true
  | _ => false
/-- what is left out, or stands -/
def compO (cp : Expr → Option Mp.E) : Option Expr → Option (List Mp.E)
  | none => some []
  | some e => (cp e).map fun x => [x]
section
variable (t : Tc)
/-- a name of the def, as a local of it or of a comprehension's block -/
def compNm (sc : Scope) (x : Str) : Option Mp.E := if t.xn.contains x then none else match t.al.lookup x with
  | none => (slotOf t sc x).map .nm
  | some y => match slotOf t sc x, slotOf t sc y with
    | some i, some b => some (.nma i b)
    | _, _ => none
def compK : Const → Option Mp.E
  | .none => some (.cst .non)
  | .bool b => some (.cst (.bl b))
  | .int i => some (.cst (.int i))
  | .str s => some (.cst (.str s.cps.toList))
  | _ => none
variable (cp : Expr → Option Mp.E)
def compBin (a : Expr) (op : Operator) (b : Expr) : Option Mp.E := match opOf op, cp a, cp b with
  | some o, some a', some b' => some (.bin o a' b')
  | _, _, _ => none
def compUn (op : UnaryOp) (a : Expr) : Option Mp.E := match op with
  | .USub => (cp a).map .neg
  | .Not => (cp a).map .nt
  | _ => none
def compBop (op : BoolOp) (es : List Expr) : Option Mp.E := match mapO cp es with
  | some (x :: xs) => some (.bop (match op with | .And => true | .Or => false) (x :: xs))
  | _ => none
def isNone : Expr → Bool
  | .Constant .none _ _ => true
  | _ => false
def compCmp (a : Expr) (ops : List CmpOp) (bs : List Expr) : Option Mp.E := match ops, bs with
  | [o], [b] => if isNone b then (match o with
      | .Is => (cp a).map fun x => .isn x false
      | .IsNot => (cp a).map fun x => .isn x true
      | _ => none)
    else match cpOf o, cp a, cp b with
      | some o', some a', some b' => some (.cmp o' a' b')
      | _, _, _ => none
  | [o1, o2], [b, c] => match cpI o1, cpI o2, cp a, cp b, cp c with
    | some p, some q, some a', some b', some c' => some (.chn p q a' b' c')
    | _, _, _, _, _ => none
  | _, _ => none
def compIf (c a b : Expr) : Option Mp.E := match cp c, cp a, cp b with
  | some c', some a', some b' => some (.ife c' a' b')
  | _, _, _ => none
def compTup (es : List Expr) : Option Mp.E := if es.length ≤ 1000 then (mapO cp es).map .tupE else none
def compLst (es : List Expr) : Option Mp.E := if es.length ≤ 1000 then (mapO cp es).map .lstE else none
def compDct (ks : List (Option Expr)) (vs : List Expr) : Option Mp.E := match ks, vs with
  | [], [] => some (.dctE true)
  | _, _ => none
def compSub (a b : Expr) : Option Mp.E := match b with
  | .Slice lo hi st _ => match st with
    | none => match cp a, compO cp lo, compO cp hi with
      | some a', some l, some h => some (.sl a' l h)
      | _, _, _ => none
    | some _ => none
  | b => match cp a, cp b with
    | some a', some b' => some (.ix a' b')
    | _, _ => none
/-- a[::-1] -/
def rvsOf : Expr → Bool
  | .Slice none none (some (.UnaryOp .USub (.Constant (.int 1) _ _) _)) _ => true
  | _ => false
/-- the slot of a caught exception -/
def xSlot (sc : Scope) : Expr → Option Nat
  | .Name x _ => if t.xn.contains x && t.hot then slotOf t sc x else none
  | _ => none
def compAtt (sc : Scope) (a : Expr) (f : Str) : Option Mp.E := match xSlot t sc a with
  | some j => (ixOf f t.T.FN 0).map fun i => .xat j i
  | none => match cp a, ixOf f t.T.FN 0 with
    | some a', some i => if noCall0 a then some (.att a' i) else none
    | _, _ => none
def isIt : Mp.E → Bool
  | .rng _ _ => true
  | .zipE _ _ => true
  | .enumE _ => true
  | .revE _ => true
  | _ => false
def cpN (e : Expr) : Option Mp.E := match cp e with
  | some r => if isIt r then none else some r
  | none => none
def compIt1 (x : Str) (e a : Expr) : Option Mp.E :=
  if x = "range" then (cp a).map (.rng (.cst (.int 0)))
  else if x = "enumerate" then (cp a).map .enumE
  else if x = "reversed" then (cp a).map .revE
  else cpN cp e
def compIt2 (x : Str) (e a b : Expr) : Option Mp.E :=
  if x = "range" then (match cp a, cp b with
    | some a', some b' => some (.rng a' b')
    | _, _ => none)
  else if x = "zip" then (match cp a, cp b with
    | some a', some b' => some (.zipE a' b')
    | _, _ => none)
  else cpN cp e
/-- iterables that stand in a for alone -/
def compIt (sc : Scope) (e : Expr) : Option Mp.E := match e with
  | .Call (.Name x _) [a] [] _ => if isGl sc x then compIt1 cp x e a else cpN cp e
  | .Call (.Name x _) [a, b] [] _ => if isGl sc x then compIt2 cp x e a b else cpN cp e
  | e => cpN cp e
def compCall (sc : Scope) (x : Str) (args : List Expr) : Option Mp.E :=
  match mapO cp args with
  | none => none
  | some as =>
    if t.slf = some x then some (.slf as) else
    match entOf x t.T.fns with
    | some e => if e.lv < t.lv then some (.call e.f as) else none
    | none => match entCOf x t.T.cls with
      | some e => if e.lv + 1 < t.lv then some (.mk e.c e.f as) else none
      | none => match bltOf x with
        | some b => if as.length = 1 || (as.length = 2 && (x = "min" || x = "max")) then some (.blt b as) else none
        | none => none
def compIsi (sc : Scope) (args : List Expr) : Option Mp.E := match args with
  | [a, .Name ty _] => match xSlot t sc a with
    | some j => if isGl sc ty then (xiOf t.T ty).map fun k => .xis j k else none
    | none => if t.hot then none else match cp a, (if isGl sc ty then tyOf t.T ty else none) with
      | some a', some y => some (.isi a' [y])
      | _, _ => none
  | _ => none
/-- list(range(..)) -/
def compRng (sc : Scope) (e : Expr) : Option Mp.E := match e with
  | .Call (.Name x _) args [] _ => if isGl sc x && x = "range" then (match args with
    | [a] => (cp a).map (.rng (.cst (.int 0)))
    | [a, b] => (match cp a, cp b with
        | some a', some b' => some (.rng a' b')
        | _, _ => none)
    | _ => none) else none
  | _ => none
def compMeth (o : Expr) (m : Str) (apos : Pos) (args : List Expr) (pos : Pos) : Option Mp.E := match cp o, mapO cp args with
  | some o', some as =>
    if !noCall0 o || !(apos.endLine == pos.line) || !decide (args.length < 30) then none else
    match methOf t m with
    | some e => if e.lv < t.lv && !t.T.FN.contains m then some (.meth e.c e.f o' as) else none
    | none => if m = "get" then (match as with
        | [k] => some (.bm .get o' [k])
        | [k, d] => some (.bm .get2 o' [k, d])
        | _ => none) else if m = "index" then (match as with
        | [k] => some (.bm .index o' [k])
        | _ => none) else none
  | _, _ => none
def compCl (sc : Scope) (f : Expr) (args : List Expr) (kws : List Keyword) (pos : Pos) : Option Mp.E := match kws with
  | [] => match f with
    | .Name x _ => if !isGl sc x then none
      else if x = "isinstance" then compIsi t cp sc args
      else if t.hot then none
      else match (if x = "list" then (match args with
        | [a] => compRng cp sc a
        | _ => none) else none) with
        | some r => some (.blt .list [r])
        | none => compCall t cp sc x args
    | .Attribute o m apos => if t.hot then none else compMeth t cp o m apos args pos
    | _ => none
  | _ => none
/-- what an iterable asks of its target -/
def tgIt (tg : Expr) : Mp.E → Bool
  | .zipE _ _ => (match tg with | .Tuple _ _ _ => true | _ => false)
  | .enumE _ => (match tg with | .Tuple _ _ _ => true | _ => false)
  | _ => true
def compLc (cpB : Expr → Option Mp.E) (sc : Scope) (elt : Expr) (gs : List Comprehension) (csc : Scope) : Option Mp.E := match gs with
  | [⟨tg, it, ifs, 0⟩] => match tgOf tg with
    | some xs => match mapO (slotLoc t csc) xs, compIt cp sc it, cpB elt, mapO cpB ifs with
      | some is, some it', some elt', some ifs' =>
        if L2.blkC t.N sc csc (xs.zip is) && decide (ifs'.length ≤ 1) && tgIt tg it' then some (.lc elt' is it' ifs') else none
      | _, _, _, _ => none
    | none => none
  | _ => none
def compDc (cpB : Expr → Option Mp.E) (sc : Scope) (ka va : Expr) (gs : List Comprehension) (csc : Scope) : Option Mp.E := match gs with
  | [⟨tg, it, [], 0⟩] => match tgOf tg with
    | some xs => match mapO (slotLoc t csc) xs, compIt cp sc it, cpB ka, cpB va with
      | some is, some it', some k', some v' =>
        if L2.blkC t.N sc csc (xs.zip is) && tgIt tg it' then some (.dc (isTuple ka) k' v' is it') else none
      | _, _, _, _ => none
    | none => none
  | _ => none
end
def comp (t : Tc) : Nat → Scope → Expr → Option Mp.E
  | 0, _, _ => none
  | n + 1, sc, e => match e with
    | .Constant c _ _ => compK c
    | .Name x _ => compNm t sc x
    | .BinOp a op b _ => compBin (comp t n sc) a op b
    | .UnaryOp op a _ => compUn (comp t n sc) op a
    | .BoolOp op es _ => compBop (comp t n sc) op es
    | .Compare a ops bs _ => compCmp (comp t n sc) a ops bs
    | .IfExp c a b _ => compIf (comp t n sc) c a b
    | .Tuple es _ _ => compTup (comp t n sc) es
    | .List es _ => compLst (comp t n sc) es
    | .Dict ks vs _ => compDct ks vs
    | .Subscript a b _ => if rvsOf b then (comp t n sc a).map .rvs else compSub (comp t n sc) a b
    | .Attribute a f _ => compAtt t (comp t n sc) sc a f
    | .Call f args kws pos => compCl t (comp t n sc) sc f args kws pos
    | .ListComp elt gs csc _ => if t.hot then none else compLc t (comp t n sc) (comp t n csc) sc elt gs csc
    | .DictComp ka va gs csc _ => if t.hot then none else compDc t (comp t n sc) (comp t n csc) sc ka va gs csc
    | _ => none

/-! ### what kind of value comes -/
inductive Kd where | rd (k : Nat) | ow (k : Nat)
  deriving DecidableEq
def rdOk (m : Md) (k : Nat) : Bool := match m with
  | .fr => true
  | .bw j => decide (j ≤ k)
  | .ow j => decide (j ≤ k)
  | .sf => decide (1 ≤ k)
  | .al _ => false
  | .jk => false
  | .ex => false
/-- at most one level owned -/
def kd1 : Kd → Bool
  | .rd _ => true
  | .ow k => decide (k ≤ 1)
def kd0 : Kd → Bool
  | .rd _ => true
  | .ow k => decide (k = 0)
def plainD : Mp.D → Bool
  | .non => true
  | .bl _ => true
  | .int _ => true
  | .str _ => true
  | _ => false
/-- no slot of these has a name for one of its items -/
def noAls (is : List Nat) (G : List Md) : Bool := is.all fun i => noAl G i
def killA (i : Nat) (G : List Md) : List Md := G.map fun m => if m = .al i then .jk else m
def killAs (is : List Nat) (G : List Md) : List Md := is.foldl (fun G i => killA i G) G
def setFr : List Nat → List Md → List Md
  | [], G => G
  | i :: is, G => setFr is (G.set i .fr)
/-- this def's own signature, for its calls of itself -/
structure Sg where
  md : List Nat
  rt : Nat
/-! a test that is no a if c else b -/
mutual
def nif : Mp.E → Bool
  | .ife _ _ _ => false
  | .nt a => nif a
  | .bop _ es => nifL es
  | _ => true
def nifL : List Mp.E → Bool
  | [] => true
  | e :: es => nif e && nifL es
end
mutual
def ck (g : Sg) : Mp.E → List Md → Kd → Bool
  | .nm i, G, kd => match G[i]?, kd with
    | some m, .rd k => rdOk m k
    | some m, .ow 0 => rdOk m 0
    | _, _ => false
  | .cst d, _, _ => plainD d
  | .bin o a b, G, kd => match o with
    | .add => kd1 kd && ck g a G (.rd 1) && ck g b G (.rd 1)
    | .mul => kd1 kd && ck g a G (.rd 1) && ck g b G (.rd 9)
    | _ => ck g a G (.rd 9) && ck g b G (.rd 9)
  | .neg a, G, _ => ck g a G (.rd 9)
  | .nt a, G, _ => ck g a G (.rd 9)
  | .bop _ es, G, kd => kd0 kd && ckL g es G (.rd 0)
  | .cmp _ a b, G, _ => ck g a G (.rd 9) && ck g b G (.rd 9)
  | .chn _ _ a b c, G, _ => ck g a G (.rd 9) && ck g b G (.rd 9) && ck g c G (.rd 9)
  | .isn a _, G, _ => ck g a G (.rd 9)
  | .ife c a b, G, kd => nif c && ck g c G (.rd 9) && ck g a G kd && ck g b G kd
  | .tupE es, G, _ => ckL g es G (.rd 0)
  | .lstE es, G, kd => match kd with
    | .ow (k + 1) => ckL g es G (.ow k)
    | _ => ckL g es G (.rd 0)
  | .dctE _, _, kd => kd1 kd
  | .ix a b, G, kd => match kd with
    | .rd k => ck g a G (.rd (k + 1)) && ck g b G (.rd 9)
    | .ow 0 => ck g a G (.rd 1) && ck g b G (.rd 9)
    | _ => false
  | .sl a lo hi, G, kd => kd1 kd && ck g a G (.rd 1) && ckL g lo G (.rd 9) && ckL g hi G (.rd 9)
  | .att a _, G, kd => kd0 kd && ck g a G (.rd 9)
  | .call f args, G, kd => (match kd with | .rd _ => true | .ow k => decide (k ≤ f.rt)) && ckA g args f.md G
  | .slf args, G, kd => (match kd with | .rd _ => true | .ow k => decide (k ≤ g.rt)) && ckA g args g.md G
  | .meth _ f o args, G, kd => (match kd with | .rd _ => true | .ow k => decide (k ≤ f.rt)) && (match f.md with
    | m :: ms => ck g o G (.rd m) && ckA g args ms G
    | [] => false)
  | .mk _ f args, G, kd => kd1 kd && (match f.md with
    | _ :: ms => ckA g args ms G
    | [] => false)
  | .blt b args, G, kd => match b with
    | .list => kd1 kd && ckL g args G (.rd 1)
    | .sorted => kd1 kd && ckL g args G (.rd 1)
    | .tuple => ckL g args G (.rd 1)
    | _ => ckL g args G (.rd 9)
  | .isi a _, G, _ => ck g a G (.rd 9)
  | .bm m o args, G, kd => match m with
    | .get => kd0 kd && ck g o G (.rd 9) && ckL g args G (.rd 9)
    | .get2 => kd0 kd && ck g o G (.rd 9) && ckL g args G (.rd 0)
    | .index => ck g o G (.rd 9) && ckL g args G (.rd 9)
  | .lc elt tg it cnd, G, kd => noAls tg G && tg.all (fun i => decide (i < G.length)) && ck g it G (.rd 1) && nifL cnd && ckL g cnd (setFr tg G) (.rd 9) && (match kd with
    | .ow (k + 1) => ck g elt (setFr tg G) (.ow k)
    | _ => ck g elt (setFr tg G) (.rd 0))
  | .dc _ k v tg it, G, kd => noAls tg G && kd1 kd && tg.all (fun i => decide (i < G.length)) && ck g it G (.rd 1) && ck g k (setFr tg G) (.rd 0) && ck g v (setFr tg G) (.rd 0)
  | .rng a b, G, _ => ck g a G (.rd 9) && ck g b G (.rd 9)
  | .zipE a b, G, _ => ck g a G (.rd 1) && ck g b G (.rd 1)
  | .enumE a, G, _ => ck g a G (.rd 1)
  | .revE a, G, _ => ck g a G (.rd 1)
  | .nma i b, G, kd => match G[i]?, G[b]?, kd with
    | some (.al b'), some m, .rd k => b' == b && rdOk m (k + 1)
    | _, _, _ => false
  | .alj i b, G, _ => match G[i]? with
    | some (.al b') => b' == b
    | _ => false
  | .xat i _, G, kd => kd0 kd && (match G[i]? with
    | some .ex => true
    | _ => false)
  | .xis i _, G, _ => (match G[i]? with
    | some .ex => true
    | _ => false)
  | .rvs a, G, kd => kd1 kd && ck g a G (.rd 1)
  | .eqo _ f _ a b, G, _ => (match f.md with
    | [m, n] => ck g a G (.rd m) && ck g b G (.rd n)
    | _ => false)
  | .ino _ f _ a b, G, _ => (match f.md with
    | [m, n] => ck g b G (.rd m) && ck g a G (.rd n)
    | _ => false)
def ckL (g : Sg) : List Mp.E → List Md → Kd → Bool
  | [], _, _ => true
  | e :: es, G, kd => ck g e G kd && ckL g es G kd
def ckA (g : Sg) : List Mp.E → List Nat → List Md → Bool
  | [], [], _ => true
  | e :: es, m :: ms, G => ck g e G (.rd m) && ckA g es ms G
  | _, _, _ => false
end
/-- how a part that is walked is asked for -/
def kI (fz : Bool) : Kd := if fz then .rd 0 else .rd 1
/-- what is walked; fz: its place must stand while others are written -/
def ckI (g : Sg) (fz : Bool) (it : Mp.E) (G : List Md) : Bool := match it with
  | .rng a b => ck g a G (.rd 9) && ck g b G (.rd 9)
  | .zipE a b => ck g a G (kI fz) && ck g b G (kI fz)
  | .enumE a => ck g a G (kI fz)
  | .revE a => ck g a G (kI fz)
  | .nm i => ck g (.nm i) G (kI fz) || (match G[i]? with | some (.bw 1) => true | _ => false)
  | e => ck g e G (kI fz)
/-! ### statements -/
/-- a list's place: a local, or an item of it -/
def placeOf (t : Tc) (cp : Expr → Option Mp.E) (sc : Scope) : Expr → Option (Nat × List Mp.E)
  | .Name x _ => match t.al.lookup x with
    | none => (slotLoc t sc x).map fun i => (i, [])
    | some y => match slotLoc t sc x, slotLoc t sc y with
      | some i, some b => some (b, [.alj i b])
      | _, _ => none
  | .Subscript (.Name x _) k _ => match t.al.lookup x, slotLoc t sc x, cp k with
    | none, some i, some k' => some (i, [k'])
    | _, _, _ => none
  | _ => none
/-- y[k] -/
def itemOf (y : Str) : Expr → Option Expr
  | .Subscript (.Name x _) k _ => if x = y then some k else none
  | _ => none
/-- a name is given to an item -/
def compAli (t : Tc) (cp : Expr → Option Mp.E) (sc : Scope) (x y : Str) (v : Expr) : Option Mp.S := match itemOf y v with
  | some k => match slotLoc t sc x, slotLoc t sc y, cp k with
    | some i, some b, some k' => some (.ali i b k')
    | _, _, _ => none
  | none => none
def isComp : Expr → Bool
  | .ListComp _ _ _ _ => true
  | .SetComp _ _ _ _ => true
  | .DictComp _ _ _ _ _ => true
  | _ => false
def isDc : Expr → Bool
  | .DictComp _ _ _ _ _ => true
  | _ => false
def orW : Option Mp.S → Mp.S
  | some s => s
  | none => .wall
def compAsg (t : Tc) (cp : Expr → Option Mp.E) (sc : Scope) (tg value : Expr) : Option Mp.S := match tg with
  | .Name x _ => match t.al.lookup x with
    | some y => compAli t cp sc x y value
    | none => if isDc value then none else match slotLoc t sc x, cp value with
      | some i, some e => some (.set i e)
      | _, _ => none
  | .Tuple es k p => match tgOf (.Tuple es k p), cp value with
    | some xs, some e => match mapO (slotLoc t sc) xs with
      | some is => if isTuple value || isComp value then none else some (.sets is e)
      | none => none
    | _, _ => none
  | .Subscript o k _ => match placeOf t cp sc o, cp k, cp value with
    | some (i, path), some k', some e => if Mp.isTupE k' && !isTuple k then none else some (.put i path k' e)
    | _, _, _ => none
  | .Attribute (.Name x _) f _ => match slotLoc t sc x, ixOf f t.T.FN 0, cp value with
    | some 0, some i, some e => some (.setF i e)
    | _, _, _ => none
  | _ => none
/-- y.pop(k) -/
def popOf (t : Tc) (cp : Expr → Option Mp.E) (sc : Scope) : Expr → Option (Nat × Mp.E)
  | .Call (.Attribute (.Name y _) m ap) [k] [] pos => if m = "pop" && (ap.endLine == pos.line) && (t.al.lookup y).isNone then (match slotLoc t sc y, cp k with
      | some j, some k' => some (j, k')
      | _, _ => none) else none
  | _ => none
/-- x.append(y.pop(k)) -/
def compApop (t : Tc) (cp : Expr → Option Mp.E) (sc : Scope) : Expr → Option Mp.S
  | .Call (.Attribute (.Name x _) m ap) [a] [] pos => if m = "append" && (ap.endLine == pos.line) && (t.al.lookup x).isNone then (match slotLoc t sc x, popOf t cp sc a with
      | some i, some (j, k') => some (.apop i j k')
      | _, _ => none) else none
  | _ => none
def compExp (t : Tc) (cp : Expr → Option Mp.E) (sc : Scope) (e : Expr) : Option Mp.S := match compApop t cp sc e with
  | some s => some s
  | none => match e with
  | .Call (.Attribute o m ap) [a] [] pos => if m = "append" then (match placeOf t cp sc o, cp a with
      | some (i, path), some a' => if ap.endLine == pos.line then some (.app i path a') else none
      | _, _ => none)
    else (cp e).map .exp
  | e => if isComp e then none else (cp e).map .exp
/-- raise C(..) -/
def compRse (t : Tc) (cp : Expr → Option Mp.E) (sc : Scope) : Expr → Option Mp.S
  | .Call (.Name x _) args [] _ => if !isGl sc x || t.hot || t.lv < 2 then none else match entXOf x t.T.xcl with
    | some e => (match e.fs, args with
      | [], [.Constant (.str _) _ _] => some (.rse e.c [] [] [])
      | _ :: _, _ :: _ => (match mapO cp args with
        | some as => if as.length = e.fs.length && as.length ≤ 1000 then some (.rse e.c e.fs e.fm as) else none
        | none => none)
      | _, _ => none)
    | none => none
  | _ => none
/-- what may stand in an except suite -/
def hotOk : Stmt → Bool
  | .Assign [.Name _ _] _ _ => true
  | .If _ _ _ _ => true
  | .Return _ _ => true
  | .Pass _ => true
  | _ => false
/-- an except clause's slot: none where no name is given -/
def hnSlot (t : Tc) (sc : Scope) : Option Str → Option Nat
  | none => some 1000000
  | some x => if t.xn.contains x then (match sc.names.lookup x with
    | some .local => (match ixOf x t.N 0 with
      | some i => if i < 1000000 then some i else none
      | none => none)
    | _ => none) else none
def hnCls (t : Tc) (sc : Scope) : Option Expr → Option Nat
  | some (.Name x _) => if isGl sc x && !(x == ("__debug__" : Str)) then xkOf t.T x else none
  | _ => none
mutual
def compS (t : Tc) (n : Nat) (sc : Scope) : Nat → Stmt → Mp.S
  | 0, _ => .wall
  | m + 1, st => if t.hot && !hotOk st then .wall else match st with
    | .Assign [tg] value _ => orW (compAsg t (comp t n sc) sc tg value)
    | .Expr e _ => orW (compExp t (comp t n sc) sc e)
    | .If c a b _ => match comp t n sc c with
      | some c' => .ifs c' (compSs t n sc m a) (compSs t n sc m b)
      | none => .wall
    | .For tg it body [] _ => match tgOf tg, compIt (comp t n sc) sc it with
      | some xs, some it' => match mapO (slotLoc t sc) xs with
        | some is => if tgIt tg it' then .for_ is it' (compSs t n sc m body) else .wall
        | none => .wall
      | _, _ => .wall
    | .While c body [] _ => match comp t n sc c with
      | some c' => .whl c' (compSs t n sc m body)
      | none => .wall
    | .Return none _ => .retN
    | .Return (some e) _ => match comp t n sc e with
      | some e' => .ret e'
      | none => .wall
    | .Pass _ => .pas
    | .Break _ => .brk
    | .Continue _ => .cnt
    | .Raise (some e) none _ => orW (compRse t (comp t n sc) sc e)
    | .Try body hds [] [] _ => match compHs t n sc m hds with
      | some (h :: hs) => .tri (compSs t n sc m body) (h :: hs)
      | _ => .wall
    | _ => .wall
def compHs (t : Tc) (n : Nat) (sc : Scope) : Nat → List ExceptHandler → Option (List Mp.Hn)
  | 0, _ => none
  | _ + 1, [] => some []
  | m + 1, h :: hs => match h with
    | .ExceptHandler c x (b :: suite) _ => match hnCls t sc c, hnSlot t sc x, compHs t n sc m hs with
      | some k, some i, some r => some (.mk k i (compSs { t with hot := true } n sc m (b :: suite)) :: r)
      | _, _, _ => none
    | _ => none
def compSs (t : Tc) (n : Nat) (sc : Scope) : Nat → List Stmt → List Mp.S
  | 0, _ => [.wall]
  | _ + 1, [] => []
  | m + 1, st :: sts => compS t n sc m st :: compSs t n sc m sts
end
/-! the places that an expression reads -/
mutual
def vars : Mp.E → List Nat
  | .nm i => [i]
  | .cst _ => []
  | .bin _ a b => vars a ++ vars b
  | .neg a => vars a
  | .nt a => vars a
  | .bop _ es => varsL es
  | .cmp _ a b => vars a ++ vars b
  | .chn _ _ a b c => vars a ++ vars b ++ vars c
  | .isn a _ => vars a
  | .ife c a b => vars c ++ vars a ++ vars b
  | .tupE es => varsL es
  | .lstE es => varsL es
  | .dctE _ => []
  | .ix a b => vars a ++ vars b
  | .sl a lo hi => vars a ++ varsL lo ++ varsL hi
  | .att a _ => vars a
  | .call _ es => varsL es
  | .slf es => varsL es
  | .meth _ _ o es => vars o ++ varsL es
  | .mk _ _ es => varsL es
  | .blt _ es => varsL es
  | .isi a _ => vars a
  | .bm _ o es => vars o ++ varsL es
  | .lc elt _ it cnd => vars elt ++ vars it ++ varsL cnd
  | .dc _ k v _ it => vars k ++ vars v ++ vars it
  | .rng a b => vars a ++ vars b
  | .zipE a b => vars a ++ vars b
  | .enumE a => vars a
  | .revE a => vars a
  | .nma i b => [i, b]
  | .alj i b => [i, b]
  | .xat i _ => [i]
  | .xis i _ => [i]
  | .rvs a => vars a
  | .eqo _ _ _ a b => vars a ++ vars b
  | .ino _ _ _ a b => vars a ++ vars b
def varsL : List Mp.E → List Nat
  | [] => []
  | e :: es => vars e ++ varsL es
end
def frz1 (G : List Md) (i : Nat) : List Md := match G[i]? with
  | some (.ow _) => G.set i .fr
  | _ => G
def lowV (is : List Nat) (G : List Md) : List Md := is.foldl frz1 G
def meetM : Md → Md → Option Md
  | .fr, .fr => some .fr
  | .bw j, .bw k => if j = k then some (.bw j) else none
  | .ow j, .ow k => some (.ow (min j k))
  | .sf, .sf => some .sf
  | .fr, .ow _ => some .fr
  | .ow _, .fr => some .fr
  | .al b, .al c => if b = c then some (.al b) else some .jk
  | .ex, .ex => some .ex
  | .al _, .fr => some .jk
  | .al _, .ow _ => some .jk
  | .fr, .al _ => some .jk
  | .ow _, .al _ => some .jk
  | .jk, .sf => none
  | .sf, .jk => none
  | .jk, _ => some .jk
  | _, .jk => some .jk
  | _, _ => none
def meet : List Md → List Md → Option (List Md)
  | [], [] => some []
  | a :: as, b :: bs => match meetM a b, meet as bs with
    | some c, some cs => some (c :: cs)
    | _, _ => none
  | _, _ => none
/-- no exception is held -/
def noEx (G : List Md) : Bool := G.all fun m => !(m == .ex)
/-- behind a return -/
def dead (G : List Md) : List Md := G.map fun
  | .bw k => .bw k
  | .sf => .sf
  | .ex => .ex
  | _ => .ow 9
def cap1 (k : Nat) (G : List Md) (i : Nat) : List Md := match G[i]? with
  | some (.ow j) => G.set i (.ow (min j k))
  | _ => G
def capV (k : Nat) (is : List Nat) (G : List Md) : List Md := is.foldl (cap1 k) G
def tryG (ok : List Md → Bool) (G : List Md) : List (List Md) → Option (List Md)
  | [] => none
  | G1 :: r => if lowG G G1 && ok G1 then some G1 else tryG ok G r
/-- as it is, or with what it reads owned less deep, or frozen -/
def tryLow (ok : List Md → Bool) (vs : List Nat) (G : List Md) : Option (List Md) :=
  if ok G then some G else tryG ok G [capV 2 vs G, capV 1 vs G, lowV vs G]
/-- .. or with slot i owned less deep -/
def tryK (ok : List Md → Bool) (vs : List Nat) (G : List Md) (i : Nat) : List Nat → Option (List Md)
  | [] => none
  | j :: js => match tryLow ok vs (G.set i (.ow j)) with
    | some G1 => if lowG G G1 && ok G1 then some G1 else tryK ok vs G i js
    | none => tryK ok vs G i js
def tryO (ok : List Md → Bool) (vs : List Nat) (G : List Md) (i : Nat) : Option (List Md) := match tryLow ok vs G with
  | some G1 => some G1
  | none => tryK ok vs G i [3, 2, 1]
def pick (g : Sg) (e : Mp.E) (G : List Md) : List Nat → Option Nat
  | [] => none
  | k :: ks => if ck g e G (.ow k) then some k else pick g e G ks
/-- lp: the modes at a loop's next turn; tr: those that an except clause finds -/
structure Lx where
  lp : Option (List Md)
  tr : Option (List Md)
def okL (L : Lx) (G : List Md) : Bool := match L.tr with
  | none => true
  | some GX => lowG G GX
def pickL (g : Sg) (L : Lx) (e : Mp.E) (G : List Md) : List Nat → Option (Nat × List Md)
  | [] => none
  | k :: ks => match tryLow (fun G => okL L G && ck g e G (.ow k)) (vars e) G with
    | some G1 => some (k, G1)
    | none => pickL g L e G ks
def chkSet (g : Sg) (L : Lx) (i : Nat) (e : Mp.E) (G : List Md) : Option (List Md) :=
  if !decide (i < G.length) || !okL L G then none else
  match pick g e G [3, 2, 1] with
  | some k => if noAl G i then some (G.set i (.ow k)) else none
  | none => match pickL g L e G [3, 2, 1] with
    | some (k, G1) => if noAl G1 i then some (G1.set i (.ow k)) else none
    | none => match tryLow (fun G => okL L G && ck g e G (.rd 0)) (vars e) G with
      | some G1 => if noAl G1 i then some (G1.set i .fr) else none
      | none => none
def chkPath (g : Sg) (i : Nat) (path : List Mp.E) (G : List Md) : Option Nat := match G[i]? with
  | some (.ow k) => if decide (path.length < k) && ckL g path G (.rd 9) then some (k - path.length - 1) else none
  | _ => none
def fixG (f : List Md → Option (List Md)) : Nat → List Md → Option (List Md)
  | 0, _ => none
  | n + 1, G => match f G with
    | none => none
    | some G1 => if lowG G1 G then some G else match meet G G1 with
      | some G2 => fixG f n G2
      | none => none
def lowO (o : Option (List Md)) (G1 : List Md) : Bool := match o with
  | some G2 => lowG G2 G1
  | none => false
def isNmOw (e : Mp.E) (rt : Nat) (G : List Md) : Bool := match e with
  | .nm i => (match G[i]? with | some (.ow k) => decide (rt ≤ k) | _ => false)
  | _ => false
/-! the slots that a body gives new things -/
mutual
def asg : Mp.S → List Nat
  | .set i _ => [i]
  | .sets is _ => is
  | .ali i _ _ => [i]
  | .ifs _ a b => asgL a ++ asgL b
  | .for_ tg _ b => tg ++ asgL b
  | .whl _ b => asgL b
  | .tri b hs => asgL b ++ asgH hs
  | _ => []
def asgL : List Mp.S → List Nat
  | [] => []
  | s :: ss => asg s ++ asgL ss
def asgH : List Mp.Hn → List Nat
  | [] => []
  | h :: hs => asgN h ++ asgH hs
def asgN : Mp.Hn → List Nat
  | .mk _ i b => i :: asgL b
end
/-- what an except clause may count on -/
def lowX (is : List Nat) (G : List Md) : List Md := (G.zipIdx).map fun q => if is.contains q.2 then (match q.1 with | .sf => .sf | _ => .jk) else match q.1 with
  | .ow _ => .fr
  | .al _ => .jk
  | m => m
def meetA : List (List Md) → List Md → Option (List Md)
  | [], G => some G
  | G1 :: r, G => match meet G G1 with
    | some G2 => meetA r G2
    | none => none
mutual
/-- the modes behind a statement; ini: within __init__; L: the loop's, the except clauses' -/
def chkS (g : Sg) (ini : Bool) : Mp.S → Lx → List Md → Option (List Md)
  | .set i e, L, G => if lowG G (killA i G) then chkSet g L i e (killA i G) else none
  | .sets is e, L, G => match tryLow (fun G => okL L G && ck g e G (.rd 0)) (vars e) (killAs is G) with
    | some G1 => if lowG G (killAs is G) && noAls is G1 && is.all (fun i => decide (i < G1.length)) then some (setFr is G1) else none
    | none => none
  | .app i path e, L, G => match tryO (fun G => okL L G && (match chkPath g i path G with | some k => (noAl G i || !path.isEmpty) && ck g e G (.ow k) | none => false)) (vars e) G i with
    | some G1 => some G1
    | none => none
  | .put i path k e, L, G => match tryO (fun G => okL L G && (match chkPath g i path G with | some j => (noAl G i || !path.isEmpty) && ck g e G (.ow j) && ck g k G (.rd 9) | none => false)) (vars e) G i with
    | some G1 => some G1
    | none => none
  | .setF _ e, L, G => if ini then (match tryLow (fun (G : List Md) => okL L G && ((match G[0]? with | some Md.sf => true | _ => false) && noAl G 0 && ck g e G (.rd 0))) (vars e) G with
      | some G1 => some G1
      | none => none) else none
  | .ali i b e, L, G => match tryLow (fun G => okL L G && (ck g e G (.rd 9) && ck g (.nm b) G (.rd 9))) (vars e) (killA i G) with
    | some G1 => if lowG G (killA i G) && noAl G1 i && decide (i < G1.length) && decide (b < G1.length) && !(i == b) then some (G1.set i (.al b)) else none
    | none => none
  | .exp e, L, G => tryLow (fun G => okL L G && ck g e G (.rd 9)) (vars e) G
  | .ifs c a b, L, G => match tryLow (fun G => okL L G && (nif c && ck g c G (.rd 9))) (vars c) G with
    | some G0 => match chkSs g ini a L G0, chkSs g ini b L G0 with
      | some G1, some G2 => match meet G1 G2 with
        | some G3 => if lowG G1 G3 && lowG G2 G3 then some G3 else none
        | none => none
      | _, _ => none
    | none => none
  | .for_ tg it body, L, G => match tryLow (fun G => okL L G && ckI g true it G) (vars it) G with
    | some G0 => if !tg.all (fun i => decide (i < G0.length)) then none else
      match fixG (fun G1 => chkSs g ini body { L with lp := some G1 } (setFr tg G1)) 6 (killAs tg G0) with
      | some G1 => if noAls tg G1 && lowG G0 G1 && lowO (chkSs g ini body { L with lp := some G1 } (setFr tg G1)) G1 then some G1 else none
      | none => none
    | none => none
  | .whl c body, L, G => match fixG (fun G1 => if nif c && ck g c G1 (.rd 9) then chkSs g ini body { L with lp := some G1 } G1 else (match tryLow (fun G => nif c && ck g c G (.rd 9)) (vars c) G1 with | some G2 => some G2 | none => none)) 6 G with
    | some G1 => if lowG G G1 && okL L G1 && nif c && ck g c G1 (.rd 9) && lowO (chkSs g ini body { L with lp := some G1 } G1) G1 then some G1 else none
    | none => none
  | .ret e, L, G => if ini then none else if isNmOw e g.rt G then some (dead G) else (tryLow (fun G => okL L G && ck g e G (Kd.ow g.rt)) (vars e) G).map fun _ => dead G
  | .retN, _, G => if ini then none else some (dead G)
  | .brk, L, G => match L.lp with
    | some G1 => if lowG G G1 then some (dead G) else none
    | none => none
  | .cnt, L, G => match L.lp with
    | some G1 => if lowG G G1 then some (dead G) else none
    | none => none
  | .pas, _, G => some G
  | .wall, _, G => some (dead G)
  | .rse _ _ _ es, L, G => (tryLow (fun G => okL L G && ckL g es G (.rd 0)) (varsL es) G).map fun _ => dead G
  | .tri body hs, L, G => if ini then none else
    let GX := lowX (asgL body) G
    if !lowG G GX then none else
    match chkSs g ini body { L with tr := some GX } G, chkHs g ini hs L GX with
    | some G1, some Gs => match meetA Gs G1 with
      | some G2 => if lowG G1 G2 && Gs.all (fun G3 => lowG G3 G2) && okL L GX then some G2 else none
      | none => none
    | _, _ => none
  | .apop i j k, L, G =>
    let G1 := (G.set i (.ow 1)).set j (.ow 1)
    if ini then none else
    if lowG G G1 && okL L G1 && !(i == j) && decide (i < G.length) && decide (j < G.length) && noAl G1 i && noAl G1 j && ck g k G1 (.rd 9) then some G1 else none
def chkSs (g : Sg) (ini : Bool) : List Mp.S → Lx → List Md → Option (List Md)
  | [], _, G => some G
  | s :: ss, L, G => match chkS g ini s L G with
    | some G1 => chkSs g ini ss L G1
    | none => none
/-- the modes behind each except clause -/
def chkHs (g : Sg) (ini : Bool) : List Mp.Hn → Lx → List Md → Option (List (List Md))
  | [], _, _ => some []
  | h :: hs, L, GX => match chkH g ini h L GX, chkHs g ini hs L GX with
    | some G, some r => some (G :: r)
    | _, _ => none
def chkH (g : Sg) (ini : Bool) : Mp.Hn → Lx → List Md → Option (List Md)
  | .mk _ i suite, L, GX => if decide (GX.length ≤ 1000000) && (decide (i < GX.length) || i == 1000000) && noEx GX && lowG GX (killA i GX) && noAl (killA i GX) i then (match chkSs g ini suite ⟨none, none⟩ ((killA i GX).set i .ex) with
    | some G => if decide (G.length ≤ 1000000) && noAl G i && noEx (G.set i (.ow 9)) then some (G.set i (.ow 9)) else none
    | none => none) else none
end
end MpS

/-! MpTup: tuples whose object is known: made, taken apart, asked for a place; keys of dicts. -/
namespace MpS
open PySem PySem.Spec PyProof.Rows L2

/-- the object of a new tuple -/
def tupO (its : List Value) : Obj := { cls := .type "tuple", data := .seq its.toArray }
/-- a new tuple, its object known -/
def NewT (xs : List V) (H : Hp) (Q : VK) : Prop := ∀ (p : Addr) (o : Obj), H p = none → o.dict = none → Q (.ref p) (upd H p (.frz o (.tup xs)))
section
variable {X : Cx} {pins : List (Addr × Obj)} {σ : L2.St} {H : Hp} {s : Shared} {h' : Heap} {its : List Value} {xs : List V} {Q : VK}
theorem newT_at (I : Inv X pins σ H s) (hp : ∀ b o, s.heap.get? b = some o → h'.get? b = some o) {p : Addr} (le : s.heap.objs.size ≤ p) (g : h'.get? p = some (tupO its)) (r : Vals xs its) (z : xs.length ≤ sizeLine) (q : NewT xs H Q) : EP X pins σ Q (.ref p) { s with heap := h' } := by
  have hn : H p = none := I.hok.fresh le
  refine ⟨.ref p, upd H p (.frz (tupO its) (.tup xs)), I.laid (t' := s.toks) hp le ?_, rfl, q p _ hn rfl⟩
  exact ⟨g, z, its, r, ⟨_, g, rfl, _, rfl⟩⟩
theorem newT_push (I : Inv X pins σ H s) (r : Vals xs its) (z : xs.length ≤ sizeLine) (q : NewT xs H Q) : EP X pins σ Q (.ref s.heap.objs.size) { s with heap := s.heap.push (tupO its) } :=
  newT_at I (fun b u e => Heap.get?_push_of_some _ e) (Nat.le_refl _) (Heap.get?_push_size _ rfl) r z q
/-- a display -/
theorem pe_tupF {es : List Expr} {t : TA} {pos : Pos} {x1} (h : PA X es t) : PE X (.Tuple es x1 pos) (fun σ H Q => t σ H fun xs H1 => xs.length ≤ sizeLine ∧ NewT xs H1 Q) := by
  refine ⟨fun pins s σ H Q I hq => wpAny_Tuple_spliced (thn (h.run pos pins s σ H _ I hq) fun us s1 q1 => ?_)⟩
  obtain ⟨ys, H1, I1, rr, zz, qq⟩ := q1
  exact ⟨rr.length ▸ zz, newT_push I1 rr zz qq⟩
/-- tuple(xs) -/
def rTupF (K : PySem.W.Frag) : List V → Hp → VK → Prop := fun xs H Q => ∃ p ys, xs = [.ref p] ∧ ((SqL K H p ys ∧ NewT ys H Q) ∨ (SqT K H p ys ∧ Q (.ref p) H))
theorem call_tupF : CallR X (.type "tuple") (rTupF X.K) := by
  intro pins s σ H xs us Q I r h
  obtain ⟨p, ys, rfl, h⟩ := h
  obtain ⟨u, rfl, rx⟩ := vals1 r
  cases rx
  rcases h with ⟨hl, q⟩ | ⟨ht, q⟩
  · obtain ⟨its, rr, pl, zz⟩ := I.list hl
    have ln := rr.length
    refine call_tuple_list pl.isList (fun g kp => ?_) (by simp only [List.size_toArray] <;> omega)
    exact newT_push (I.kept (t' := s.toks) kp) rr zz q
  · obtain ⟨its, rr, pl, zz⟩ := I.tuple ht
    exact call_tuple_same pl (show EP X pins σ Q (.ref p) s from ⟨.ref p, H, I, rfl, q⟩)
/-- t[lo:hi] -/
def rSlF (K : PySem.W.Frag) : V → Option Int → Option Int → Hp → VK → Prop := fun x lo hi H Q => ∃ a xs, x = .ref a ∧ SqT K H a xs ∧
  (HT.sIx xs.length 0 lo = 0 ∧ HT.sIx xs.length xs.length hi = xs.length → Q (.ref a) H) ∧ (¬ (HT.sIx xs.length 0 lo = 0 ∧ HT.sIx xs.length xs.length hi = xs.length) → NewT (cutV xs lo hi) H Q)
theorem sl_tupF : SlR X (rSlF X.K) := by
  intro pins s σ H x v vl vu lo hi sl Q I rx hs pl pu h
  obtain ⟨a, xs, rfl, hx, q1, q2⟩ := h
  by_cases hw : HT.sIx xs.length 0 lo = 0 ∧ HT.sIx xs.length xs.length hi = xs.length
  · exact sl_tupA pins s σ H _ v vl vu lo hi sl Q I rx hs pl pu ⟨a, xs, rfl, hx, q1, fun z => absurd hw z⟩
  · cases rx
    obtain ⟨its, rr, ht, zz⟩ := I.tuple hx
    have ln : its.toArray.size = xs.length := by rw [List.size_toArray]; exact rr.length.symm
    refine ⟨"tuple", _, PyProof.Rows.slot_tuple_getitem.lookup, ht.typeIs, HT.getItem_tuple_cut ht hs pl pu (fun z => hw (by rw [ln] at z; exact z)) ?_ (ln ▸ zz)⟩
    rw [ln]
    exact newT_push I ((rr.drop (HT.sIx xs.length 0 lo)).take (HT.sIx xs.length xs.length hi - HT.sIx xs.length 0 lo)) (Nat.le_trans (cutV_length xs lo hi) zz) (q2 hw)
/-- t + u -/
def rCatF (K : PySem.W.Frag) : R2 := fun x y H Q => ∃ a b xs ys, x = .ref a ∧ y = .ref b ∧ SqT K H a xs ∧ SqT K H b ys ∧ xs.length + ys.length ≤ sizeLine ∧
  (xs = [] → Q (.ref b) H) ∧ (xs ≠ [] → ys = [] → Q (.ref a) H) ∧ (xs ≠ [] → ys ≠ [] → NewT (xs ++ ys) H Q)
theorem op_catF : OpR X (binaryOp .Add) (rCatF X.K) := by
  intro pins s σ H x y v u Q I rx ry h
  obtain ⟨a, b, xs, ys, rfl, rfl, ha, hb, hz, q0, q1, q2⟩ := h
  by_cases hx : xs = []
  · exact op_catA pins s σ H _ _ v u Q I rx ry ⟨a, b, xs, ys, rfl, rfl, ha, hb, hz, q0, q1, fun z => absurd hx z⟩
  · cases rx
    cases ry
    obtain ⟨its, r1, p1, _⟩ := I.tuple ha
    obtain ⟨its2, r2, p2, _⟩ := I.tuple hb
    refine HT.cat_tup p1 p2 (fun z => hx (r1.nil_iff.mp z)) (fun z => (⟨.ref a, H, I, rfl, q1 hx (r2.nil_iff.mp z)⟩ : EP X pins σ Q (.ref a) s)) (fun z => ?_) (by rw [← r1.length, ← r2.length]; exact hz)
    exact newT_push I (r1.append r2) (by rw [List.length_append]; exact hz) (q2 hx fun w => z (r2.nil_iff.mpr w))
/-! ### t.index(x) -/
/-- such a tuple stands without a dict -/
theorem frz_noDict (I : Inv X pins σ H s) {p : Addr} {o : Obj} (h : H p = some (.frz o (.tup xs))) (n : o.dict = none) : s.TypeIs (.ref p) "tuple" ∧ ∀ a, Value.ref p = .ref a → ∃ ob, s.heap.get? a = some ob ∧ ob.dict = none := by
  obtain ⟨g, _, its, _, ob, g2, c, _⟩ := I.hok p _ h
  rw [g] at g2
  cases g2
  refine ⟨⟨o, g, c⟩, fun a e => ?_⟩
  cases e
  exact ⟨o, g, n⟩
/-- the place of y among xs -/
def At1 (xs : List V) (y : V) (j : Nat) : Prop := flatV y = true ∧ xs.all flatV = true ∧ (∃ z, xs[j]? = some z ∧ eqV z y = true) ∧ ∀ (m : Nat) (w : V), m < j → xs[m]? = some w → eqV w y = false
theorem tix_run {A : Around} {E : Value → Shared → Prop} {p : Addr} {y : V} {v : Value} {j : Nat} {R : Value → Shared → Prop} (I : Inv X pins σ H s) (h : SqT X.K H p xs) (ry : RelV y v) (a : At1 xs y j) (q : ∀ t s', Inv X pins σ H s' → R (.int (j : Nat) t) s') :
    wpAny (model X.prog X.w) A (call (.builtin "tuple.index") [.ref p, v]) R E s := by
  obtain ⟨f1, f2, ⟨z, hz, ez⟩, no⟩ := a
  obtain ⟨its, r, pl, _⟩ := I.tuple h
  obtain ⟨⟨cls, dd, dt, sl⟩, ho, hc, n, hd⟩ := pl
  simp only at hc hd
  subst hc
  subst hd
  have one : ∀ (m : Nat) (w : V), xs[m]? = some w → ∃ hm : m < its.toArray.size, eqU y its.toArray[m] = eqV w y := fun m w hw => by
    obtain ⟨u, hu, ru⟩ := r.get hw
    obtain ⟨hm, eu⟩ := List.getElem?_eq_some_iff.mp hu
    have hm' : m < its.toArray.size := by rw [List.size_toArray]; exact hm
    refine ⟨hm', ?_⟩
    have e2 : its.toArray[m] = u := by rw [← eu]; simp
    rw [e2]
    exact eqU_of ru (List.all_eq_true.mp f2 w (List.mem_of_getElem? hw))
  obtain ⟨hj, ej⟩ := one j z hz
  refine call_meets PySem.F.slot_tuple_index ⟨_, ho, rfl⟩ PySem.F.entry_tuple_index (PySem.F.args_tuple_index_2 _ _) (TI.tuple_indexAt p its.toArray n dd sl v (eqU y) j hj (by rw [ej]; exact ez) fun m hm hmj => ?_)
    ⟨ho, fun w hw => mem_eqAt ry f1 r f2 w (by simpa using hw), q _ _ (I.tok _)⟩
  have hx : m < xs.length := by rw [r.length, ← List.size_toArray]; exact hm
  obtain ⟨_, em⟩ := one m _ (List.getElem?_eq_getElem hx)
  rw [em]
  exact no m _ hmj (List.getElem?_eq_getElem hx)
/-- a.index(e): a list's, a tuple's -/
def tIdx (K : PySem.W.Frag) (r : V → List V → Hp → VK → Prop) (ta te : TE) : TE := fun σ H Q => ta σ H fun x H1 =>
  (tyV K "list" x H1 ∧ te σ H1 fun y H2 => r x [y] H2 Q) ∨
  ∃ p xs o, x = .ref p ∧ H1 p = some (.frz o (.tup xs)) ∧ o.dict = none ∧ te σ H1 fun y H2 => ∃ j, SqT K H2 p xs ∧ At1 xs y j ∧ Q (.int (j : Nat)) H2
theorem pe_idx {a e : Expr} {apos cpos : Pos} {r : V → List V → Hp → VK → Prop} {ta te : TE} (hm : MtR X "list.index" r) (ha : PE X a ta) (he : PE X e te) (hb : attributeBase a "index" X.env (eval a X.env) = eval a X.env)
    (hfew : ((backTo cpos (starEach [e] X.env)).all (fun x => !x.1) && (backToKw cpos (keywordEach [] X.env)).all (fun x => x.1.isSome) && decide ([e].length + ([] : List Keyword).length + (if ([] : List Keyword).isEmpty then 0 else 1) < 30)) = true)
    (hline : (apos.endLine == cpos.line) = true) (hs : starEach [e] X.env = (false, eval e X.env) :: starEach [] X.env) : PE X (.Call (.Attribute a "index" apos) [e] [] cpos) (tIdx X.K r ta te) := by
  refine ⟨fun pins s σ H Q I h => wpAny_Call_method_late hb hfew hline rfl (thn (ha.run pins s σ H _ I h) fun v s1 q1 => ?_)⟩
  obtain ⟨x, H1, I1, r1, q1⟩ := q1
  have go : ∀ {id : String} (P : V → Hp → Prop), te σ H1 P → (∀ y H2 u s2, Inv X pins σ H2 s2 → RelV y u → P y H2 → wpAny (model X.prog X.w) X.A (call (.builtin id) [v, u]) (EP X pins σ Q) X.xe s2) →
      wpAny (model X.prog X.w) X.A (callWith cpos (.builtin id) [v] (backTo cpos (starEach [e] X.env)) []) (EP X pins σ Q) X.xe s1 := fun {id} P hp k => by
    have e0 : (fun y H2 => ∃ z, [y] = [z] ∧ P z H2) = P := by
      funext y H2
      refine propext ⟨?_, fun q => ⟨y, rfl, q⟩⟩
      rintro ⟨z, e, q⟩
      cases e
      exact q
    have hA := (pa_cons he pa_nil hs).run cpos pins s1 σ H1 (fun vs H2 => ∃ y, vs = [y] ∧ P y H2) I1 (show te σ H1 fun y H2 => ∃ z, [y] = [z] ∧ P z H2 by rw [e0]; exact hp)
    rw [hs] at hA ⊢
    refine Calls.callWith_builtin rfl (Calls.evalArgs_plain (thn hA fun us s2 q2 => ?_))
    obtain ⟨vs, H2, I2, r2, y, rfl, q2⟩ := q2
    obtain ⟨u, rfl, ru⟩ := vals1 r2
    exact k y H2 u s2 I2 ru q2
  rcases q1 with ⟨ty, q1⟩ | ⟨p, xs, o, rfl, hp, n, q1⟩
  · obtain ⟨h1, h2⟩ := tyV_is I1 r1 ty
    exact ⟨"list", _, PySem.F.plainAttrs_list, PySem.F.slot_list_index, PySem.F.type_list_index, h1, h2, go _ q1 fun y H2 u s2 I2 ru q2 => hm pins s2 σ H2 x [y] v [u] Q I2 r1 (.cons ru .nil) q2⟩
  · obtain rfl : v = Value.ref p := r1
    obtain ⟨h1, h2⟩ := frz_noDict I1 hp n
    refine ⟨"tuple", _, PySem.F.plainAttrs_tuple, PySem.F.slot_tuple_index, PySem.F.type_tuple_index, h1, h2, go _ q1 fun y H2 u s2 I2 ru q2 => ?_⟩
    obtain ⟨j, hq, at1, q3⟩ := q2
    exact tix_run I2 hq ru at1 fun t s' I3 => ⟨.int (j : Nat), H2, I3, ⟨t, rfl⟩, q3⟩

/-! ### keys that are such tuples -/
/-- b stands as a tuple -/
def TupT (H : Hp) (b : Addr) (xs : List V) : Prop := H b = some (.tup xs) ∨ ∃ o, H b = some (.frz o (.tup xs))
theorem keyT_of {P : Program} {w : World} {h : Heap} {b : Addr} {ks : List Key} (ok : HOk P w H h) (e : TupT H b (ks.map kV)) : (tupleKind (mixKind P w)).is h ks b := by
  rcases e with e | ⟨o, e⟩
  · exact key_of ok e
  · obtain ⟨_, _, its, r, ob, h1, h2, n, h3⟩ := ok b _ e
    exact ⟨ob, its.toArray, n, h1, h2, h3, by simpa using items_are r⟩
/-- what the dict at a holds at y -/
def DGt (H : Hp) (a : Addr) (y : V) (r : Option V) : Prop := (∃ kvs k, H a = some (.dK kvs) ∧ y = kV k ∧ r = valV kvs k) ∨ ∃ kvs k b, H a = some (.dT kvs) ∧ y = .ref b ∧ TupT H b (k.map kV) ∧ r = valV kvs k
section
variable {a : Addr} {y d v : V} {u : Value} {o : Option V} {A : Around} {E : Value → Shared → Prop}
theorem DGt.ty (I : Inv X pins σ H s) (g : DGt H a y o) : s.TypeIs (.ref a) "dict" := by
  rcases g with ⟨kvs, k, e, _, _⟩ | ⟨kvs, k, b, e, _, _, _⟩
  · exact (dk_of I.hok e).2.2.elim fun _ z => z.2.typeIs
  · exact (dt_of I.hok e).2.2.elim fun _ z => z.2.typeIs
theorem gt_item {Q : Value → Shared → Prop} (hu : A.units + 1 < cLine) (I : Inv X pins σ H s) (g : DGt H a y (some v)) (ry : RelV y u) (h : ∀ w' s', Inv X pins σ H s' → RelV v w' → Q w' s') : wpAny (model X.prog X.w) A (getItem (.ref a) u) Q E s := by
  rcases g with ⟨kvs, k, e, ey, l⟩ | ⟨kvs, k, b, e, ey, eb, l⟩
  · exact d_getItem hu I (.inl ⟨kvs, k, .inl e, ey, l⟩) ry h
  · subst ey
    obtain rfl : u = Value.ref b := ry
    obtain ⟨_, hd, xs, rel, dd⟩ := dt_of I.hok e
    obtain ⟨w', hw, rw'⟩ := RelO.some_of (v := v) (o := (atKey xs k).map (·.2)) (l ▸ rel.val k)
    obtain ⟨⟨p1, p2⟩, hp, rfl⟩ := Option.map_eq_some_iff.mp hw
    exact wpAny_getItem_heap (tupleKind_room_in1 hu) (keyT_of I.hok eb) dd hp (h _ _ (I.tok _) rw')
theorem gt_in {Q : Value → Shared → Prop} (hu : A.units + 1 < cLine) (I : Inv X pins σ H s) (g : DGt H a y o) (ry : RelV y u) (h : ∀ s', Inv X pins σ H s' → Q (.bool o.isSome) s') : wpAny (model X.prog X.w) A (compareOp .In u (.ref a)) Q E s := by
  rcases g with ⟨kvs, k, e, ey, l⟩ | ⟨kvs, k, b, e, ey, eb, l⟩
  · exact d_in hu I (.inl ⟨kvs, k, .inl e, ey, l⟩) ry h
  · subst ey
    obtain rfl : u = Value.ref b := ry
    obtain ⟨_, hd, xs, rel, dd⟩ := dt_of I.hok e
    have q := (rel.val k).isSome_eq
    rw [← l, Option.isSome_map] at q
    refine wpAny_in_heap (tupleKind_room_in1 hu) (keyT_of I.hok eb) hd dd ?_
    exact q ▸ h _ (I.tok _)
theorem gt_notIn {Q : Value → Shared → Prop} (hu : A.units + 1 < cLine) (I : Inv X pins σ H s) (g : DGt H a y o) (ry : RelV y u) (h : ∀ s', Inv X pins σ H s' → Q (.bool (!o.isSome)) s') : wpAny (model X.prog X.w) A (compareOp .NotIn u (.ref a)) Q E s := by
  rcases g with ⟨kvs, k, e, ey, l⟩ | ⟨kvs, k, b, e, ey, eb, l⟩
  · exact d_notIn hu I (.inl ⟨kvs, k, .inl e, ey, l⟩) ry h
  · subst ey
    obtain rfl : u = Value.ref b := ry
    obtain ⟨_, hd, xs, rel, dd⟩ := dt_of I.hok e
    have q := (rel.val k).isSome_eq
    rw [← l, Option.isSome_map] at q
    refine wpAny_notIn_heap (tupleKind_room_in1 hu) (keyT_of I.hok eb) hd dd ?_
    exact q ▸ h _ (I.tok _)
theorem gt_get1 {Q : Value → Shared → Prop} (hu : A.units + 1 < cLine) (I : Inv X pins σ H s) (g : DGt H a y o) (ry : RelV y u) (h : ∀ w' s', Inv X pins σ H s' → RelV (o.getD .non) w' → Q w' s') : wpAny (model X.prog X.w) A (call (.builtin "dict.get") [.ref a, u]) Q E s := by
  rcases g with ⟨kvs, k, e, ey, l⟩ | ⟨kvs, k, b, e, ey, eb, l⟩
  · exact d_get1 hu I (.inl ⟨kvs, k, .inl e, ey, l⟩) ry h
  · subst ey
    obtain rfl : u = Value.ref b := ry
    obtain ⟨_, hd, xs, rel, dd⟩ := dt_of I.hok e
    have q : RelV (o.getD .non) (((atKey xs k).map (·.2)).getD .none) := l ▸ (rel.val k).getD rfl
    exact call_meetsIn PySem.F.slot_dict_get dd.typeIs PySem.F.entry_dict_get (PySem.F.args_dict_get_2 _ _) (meetsH_dict_get (tupleKind (mixKind X.prog X.w)) a b hd) ⟨tupleKind_room_in1 hu, k, xs, keyT_of I.hok eb, dd, h _ _ (I.tok _) q⟩
theorem gt_get2 {r : Value} {Q : Value → Shared → Prop} (hu : A.units + 1 < cLine) (I : Inv X pins σ H s) (g : DGt H a y o) (ry : RelV y u) (rd : RelV d r) (h : ∀ w' s', Inv X pins σ H s' → RelV (o.getD d) w' → Q w' s') : wpAny (model X.prog X.w) A (call (.builtin "dict.get") [.ref a, u, r]) Q E s := by
  rcases g with ⟨kvs, k, e, ey, l⟩ | ⟨kvs, k, b, e, ey, eb, l⟩
  · exact d_get2 hu I (.inl ⟨kvs, k, .inl e, ey, l⟩) ry rd h
  · subst ey
    obtain rfl : u = Value.ref b := ry
    obtain ⟨_, hd, xs, rel, dd⟩ := dt_of I.hok e
    have q : RelV (o.getD d) (((atKey xs k).map (·.2)).getD r) := l ▸ (rel.val k).getD rd
    exact call_meetsIn PySem.F.slot_dict_get dd.typeIs PySem.F.entry_dict_get (PySem.F.args_dict_get_3 _ _ _) (meetsH_dict_get_default (tupleKind (mixKind X.prog X.w)) a b hd r) ⟨tupleKind_room_in1 hu, k, xs, keyT_of I.hok eb, dd, h _ _ (I.tok _) q⟩
end
/-- d.get(e), d.get(e, f) -/
def tGt1 (td ty : TE) : TE := fun σ H Q => td σ H fun x H1 => ∃ a, x = .ref a ∧ IsD H1 a ∧ ty σ H1 fun y H2 => ∃ o, DGt H2 a y o ∧ Q (o.getD .non) H2
def tGt2 (td ty tx : TE) : TE := fun σ H Q => td σ H fun x H1 => ∃ a, x = .ref a ∧ IsD H1 a ∧ ty σ H1 fun y H2 => tx σ H2 fun z H3 => ∃ o, DGt H3 a y o ∧ Q (o.getD z) H3
theorem pe_gt1 {a e : Expr} {apos cpos : Pos} {td ty : TE} (hu : X.A.units + 1 < cLine) (ho : PE X a td) (he : PE X e ty) (m : M1 X a "get" apos e cpos) : PE X (.Call (.Attribute a "get" apos) [e] [] cpos) (tGt1 td ty) := by
  refine ⟨fun pins s σ H Q I h => wpAny_Call_method m.base m.few m.line PySem.F.plainAttrs_dict PySem.F.slot_dict_get PySem.F.type_dict_get (thn (ho.run pins s σ H _ I h) fun u s1 q1 => ?_)⟩
  obtain ⟨x, H1, I1, rx, p, rfl, d, q1⟩ := q1
  obtain rfl : u = Value.ref p := rx
  obtain ⟨t1, t2, _⟩ := isD_at I1 d
  refine ⟨t1, t2, m.trees ▸ Calls.callWith_builtin rfl (Calls.evalArgs_plain (Calls.spliced_cons (thn (he.run pins s1 σ H1 _ I1 q1) fun iv s2 q2 => Calls.spliced_nil ?_)))⟩
  obtain ⟨y, H2, I2, ry, ov, g, q2⟩ := q2
  exact gt_get1 hu I2 g ry fun w' s3 I3 rw' => ⟨_, H2, I3, rw', q2⟩
theorem pe_gt2 {a e f : Expr} {apos cpos : Pos} {td ty tx : TE} (hu : X.A.units + 1 < cLine) (ho : PE X a td) (he : PE X e ty) (hf : PE X f tx) (m : M2 X a "get" apos e f cpos) : PE X (.Call (.Attribute a "get" apos) [e, f] [] cpos) (tGt2 td ty tx) := by
  refine ⟨fun pins s σ H Q I h => wpAny_Call_method m.base m.few m.line PySem.F.plainAttrs_dict PySem.F.slot_dict_get PySem.F.type_dict_get (thn (ho.run pins s σ H _ I h) fun u s1 q1 => ?_)⟩
  obtain ⟨x, H1, I1, rx, p, rfl, d, q1⟩ := q1
  obtain rfl : u = Value.ref p := rx
  obtain ⟨t1, t2, _⟩ := isD_at I1 d
  refine ⟨t1, t2, m.trees ▸ Calls.callWith_builtin rfl (Calls.evalArgs_plain (Calls.spliced_cons (thn (he.run pins s1 σ H1 _ I1 q1) fun iv s2 q2 => ?_)))⟩
  obtain ⟨y, H2, I2, ry, q2⟩ := q2
  refine Calls.spliced_cons (thn (hf.run pins s2 σ H2 _ I2 q2) fun fv s3 q3 => Calls.spliced_nil ?_)
  obtain ⟨z, H3, I3, rz, ov, g, q3⟩ := q3
  exact gt_get2 hu I3 g ry rz fun w' s4 I4 rw' => ⟨_, H3, I4, rw', q3⟩
end
end MpS

/-! MpE: what an Mp expression gives is what Python's gives. -/
namespace MpS
open PySem PySem.Spec PyProof.Rows L2

def Rs (C : Cfg) (kd : Kd) (Fz : Addr → Prop) (H : Hp) (d : Mp.D) (v : V) (A : List Addr) : Prop := match kd with
  | .rd k => Rd C Fz H k d v ∧ A = []
  | .ow k => Ow C Fz H k d v A
def XW (C : Cfg) (E : XK) (Fz : Addr → Prop) (H : Hp) (d : Mp.D) : Prop := ∀ cls dx H' Fz', Ext Fz H Fz' H' → XRep C Fz' H' d cls dx → E cls dx H'
def Wg (C : Cfg) (E : XK) (Fz : Addr → Prop) (H : Hp) {α : Type} (r : Mp.R α) (P : α → Prop) : Prop := match r with
  | .ok a => P a
  | .exc d => XW C E Fz H d
  | .bad => False
/-- a value has come -/
def Fin (C : Cfg) (Q : VK) (kd : Kd) (Fz : Addr → Prop) (H : Hp) (d : Mp.D) : Prop :=
  ∀ v H' Fz' A, Ext Fz H Fz' H' → Rs C kd Fz' H' d v A → A.Nodup → (∀ a ∈ A, H a = none ∧ ¬ Fz' a) → Q v H'
def WF (C : Cfg) (E : XK) (kd : Kd) (Fz : Addr → Prop) (H : Hp) (r : Mp.R Mp.D) (Q : VK) : Prop := Wg C E Fz H r (Fin C Q kd Fz H)
def RsL (C : Cfg) (Fz : Addr → Prop) (H : Hp) : List Kd → List Mp.D → List V → List Addr → Prop
  | [], ds, vs, A => ds = [] ∧ vs = [] ∧ A = []
  | k :: ks, ds, vs, A => ∃ d ds' v vs' B B', ds = d :: ds' ∧ vs = v :: vs' ∧ A = B ++ B' ∧ Rs C k Fz H d v B ∧ RsL C Fz H ks ds' vs' B'
def FinL (C : Cfg) (Q : List V → Hp → Prop) (ks : List Kd) (Fz : Addr → Prop) (H : Hp) (ds : List Mp.D) : Prop :=
  ∀ vs H' Fz' A, Ext Fz H Fz' H' → RsL C Fz' H' ks ds vs A → A.Nodup → (∀ a ∈ A, H a = none ∧ ¬ Fz' a) → Q vs H'

section
variable {C : Cfg} {G : List Md} {F0 Fz Fz' Fz1 : Addr → Prop} {Hr H H' H1 : Hp} {env : List Mp.D} {σ : L2.St} {As : Nat → List Addr} {E : XK} {kd ka : Kd} {Q : VK} {sf : Mp.Sf} {W : WX}
theorem Wg.bind {α β : Type} {r : Mp.R α} {f : α → Mp.R β} {P : β → Prop} (h : Wg C E Fz H (r.bind f) P) : Wg C E Fz H r fun a => Wg C E Fz H (f a) P := by
  cases r <;> exact h
theorem Wg.imp {α : Type} {r : Mp.R α} {P P' : α → Prop} (h : Wg C E Fz H r P) (f : ∀ a, r = .ok a → P a → P' a) : Wg C E Fz H r P' := by
  cases r with
  | ok a => exact f a rfl h
  | exc d => exact h
  | bad => exact h
theorem XW.mono {d : Mp.D} (e : Ext Fz H Fz1 H1) (h : XW C E Fz H d) : XW C E Fz1 H1 d := fun cls dx H' Fz' e' x => h cls dx H' Fz' (e.trans e') x
theorem Fin.mono {d : Mp.D} (e : Ext Fz H Fz1 H1) (h : Fin C Q kd Fz H d) : Fin C Q kd Fz1 H1 d := fun v H' Fz' A e' r n f => h v H' Fz' A (e.trans e') r n fun a ha => ⟨e.same.free (f a ha).1, (f a ha).2⟩
theorem FinL.mono {Q : List V → Hp → Prop} {ks : List Kd} {ds : List Mp.D} (e : Ext Fz H Fz1 H1) (h : FinL C Q ks Fz H ds) : FinL C Q ks Fz1 H1 ds := fun v H' Fz' A e' r n f => h v H' Fz' A (e.trans e') r n fun a ha => ⟨e.same.free (f a ha).1, (f a ha).2⟩
theorem WF.mono {r : Mp.R Mp.D} (e : Ext Fz H Fz1 H1) (h : WF C E kd Fz H r Q) : WF C E kd Fz1 H1 r Q := by
  cases r with
  | ok a => exact Fin.mono e h
  | exc d => exact XW.mono e h
  | bad => exact h
theorem WgL.mono {r : Mp.R (List Mp.D)} {Q : List V → Hp → Prop} {ks : List Kd} (e : Ext Fz H Fz1 H1) (h : Wg C E Fz H r (FinL C Q ks Fz H)) : Wg C E Fz1 H1 r (FinL C Q ks Fz1 H1) := by
  cases r with
  | ok a => exact FinL.mono e h
  | exc d => exact XW.mono e h
  | bad => exact h
theorem Rs.grow {d : Mp.D} {v : V} {A : List Addr} (e : Ext Fz H Fz1 H1) (h : Rs C kd Fz H d v A) : Rs C kd Fz1 H1 d v A := by
  cases kd with
  | rd k => exact ⟨Rd.same e.same e.sub k d v h.1, h.2⟩
  | ow k => exact Ow.keep e.sub (.of e.same) k d v A (fun a _ o h => e.same a o h) h
theorem Rs.mut {d : Mp.D} {v : V} {A : List Addr} (h : Rs C kd Fz H d v A) : ∀ a ∈ A, ∃ o, H a = some o := by
  cases kd with
  | rd k => obtain ⟨_, rfl⟩ := h; intro a ha; cases ha
  | ow k => exact fun a ha => let ⟨o, e, _⟩ := Ow.mut k d v A h a ha; ⟨o, e⟩

/-- an expression's reading -/
def tE (C : Cfg) (G : List Md) (sf : Mp.Sf) (W : WX) (kd : Kd) (e : Mp.E) : TE := fun σ H Q =>
  ∃ F0 Fz Hr env As, BI C G F0 Fz Hr env σ H As ∧ WF C (fun cls dx H' => W cls dx σ H') kd Fz H (Mp.ev e sf env) Q
/-- an argument list's -/
def tA (C : Cfg) (G : List Md) (sf : Mp.Sf) (W : WX) (ks : List Kd) (es : List Mp.E) : TA := fun σ H Q =>
  ∃ F0 Fz Hr env As, BI C G F0 Fz Hr env σ H As ∧ Wg C (fun cls dx H' => W cls dx σ H') Fz H (Mp.evs es sf env) (FinL C Q ks Fz H)
theorem go {a : Mp.E} {f : Mp.D → Mp.R Mp.D} {Q1 : VK} (b : BI C G F0 Fz Hr env σ H As) (w : WF C (fun cls dx H' => W cls dx σ H') kd Fz H ((Mp.ev a sf env).bind f) Q)
    (k : ∀ x v H' Fz' A, Mp.ev a sf env = .ok x → Ext Fz H Fz' H' → BI C G F0 Fz' Hr env σ H' As → Rs C ka Fz' H' x v A → A.Nodup → (∀ a ∈ A, H a = none ∧ ¬ Fz' a) → WF C (fun cls dx H' => W cls dx σ H') kd Fz' H' (f x) Q → Q1 v H') :
    tE C G sf W ka a σ H Q1 :=
  ⟨F0, Fz, Hr, env, As, b, (Wg.bind w).imp fun x ex q v H' Fz' A e r n fr => k x v H' Fz' A ex e (b.grow e) r n fr (WF.mono e q)⟩
theorem goL {es : List Mp.E} {ks : List Kd} {f : List Mp.D → Mp.R Mp.D} {Q1 : List V → Hp → Prop} (b : BI C G F0 Fz Hr env σ H As) (w : WF C (fun cls dx H' => W cls dx σ H') kd Fz H ((Mp.evs es sf env).bind f) Q)
    (k : ∀ x v H' Fz' A, Mp.evs es sf env = .ok x → Ext Fz H Fz' H' → BI C G F0 Fz' Hr env σ H' As → RsL C Fz' H' ks x v A → A.Nodup → (∀ a ∈ A, H a = none ∧ ¬ Fz' a) → WF C (fun cls dx H' => W cls dx σ H') kd Fz' H' (f x) Q → Q1 v H') :
    tA C G sf W ks es σ H Q1 :=
  ⟨F0, Fz, Hr, env, As, b, (Wg.bind w).imp fun x ex q v H' Fz' A e r n fr => k x v H' Fz' A ex e (b.grow e) r n fr (WF.mono e q)⟩

/-! ### ends -/
/-- data without lists are of every kind -/
theorem fin_plain {d : Mp.D} {v : V} (hf : Fin C Q kd Fz H d) (trk : ∀ a, Fz a → ∃ o, H a = some o) (hv : Val C Fz H d v)
    (hp : ∀ k, Ow C Fz H k d v []) : Q v H := by
  refine hf v H Fz [] (.refl trk) ?_ List.nodup_nil (fun a ha => by cases ha)
  cases kd with
  | rd k => exact ⟨Rd.of_val k d v hv, rfl⟩
  | ow k => exact hp k
theorem ow_of {d : Mp.D} {v : V} (hv : Val C Fz H d v) (h1 : ∀ ds, d ≠ .lst ds) (h2 : ∀ tk ks vs, d ≠ .dct tk ks vs) (h3 : ∀ c fs vs, d ≠ .ins c fs vs) : ∀ k, Ow C Fz H k d v []
  | 0 => ⟨hv, rfl⟩
  | k + 1 => by
    cases d with
    | lst ds => exact absurd rfl (h1 ds)
    | dct tk ks vs => exact absurd rfl (h2 _ _ _)
    | ins c fs vs => exact absurd rfl (h3 _ _ _)
    | _ => exact ⟨hv, rfl⟩
theorem fin_int {i : Int} (hf : Fin C Q kd Fz H (.int i)) (trk : ∀ a, Fz a → ∃ o, H a = some o) : Q (.int i) H :=
  have hv : Val C Fz H (.int i) (.int i) := by simp only [Val]
  fin_plain hf trk hv (hp := ow_of hv (by simp) (by simp) (by simp))
theorem fin_bl {i : Bool} (hf : Fin C Q kd Fz H (.bl i)) (trk : ∀ a, Fz a → ∃ o, H a = some o) : Q (.bl i) H :=
  have hv : Val C Fz H (.bl i) (.bl i) := by simp only [Val]
  fin_plain hf trk hv (hp := ow_of hv (by simp) (by simp) (by simp))
theorem fin_non (hf : Fin C Q kd Fz H .non) (trk : ∀ a, Fz a → ∃ o, H a = some o) : Q .non H :=
  have hv : Val C Fz H .non .non := by simp only [Val]
  fin_plain hf trk hv (hp := ow_of hv (by simp) (by simp) (by simp))
theorem fin_str {s : List Nat} (hf : Fin C Q kd Fz H (.str s)) (trk : ∀ a, Fz a → ∃ o, H a = some o) : Q (.str ⟨s.toArray⟩) H :=
  have hv : Val C Fz H (.str s) (.str ⟨s.toArray⟩) := by simp only [Val]
  fin_plain hf trk hv (hp := ow_of hv (by simp) (by simp) (by simp))
theorem fin_tup {ds : List Mp.D} {v : V} (hf : Fin C Q kd Fz H (.tup ds)) (trk : ∀ a, Fz a → ∃ o, H a = some o) (hv : Val C Fz H (.tup ds) v) : Q v H :=
  fin_plain hf trk hv (hp := ow_of hv (by simp) (by simp) (by simp))
/-- a frozen value -/
theorem fin_val {d : Mp.D} {v : V} (hf : Fin C Q kd Fz H d) (trk : ∀ a, Fz a → ∃ o, H a = some o) (hk : kd0 kd = true) (hv : Val C Fz H d v) : Q v H := by
  refine hf v H Fz [] (.refl trk) ?_ List.nodup_nil (fun a ha => by cases ha)
  cases kd with
  | rd k => exact ⟨Rd.of_val k d v hv, rfl⟩
  | ow k =>
    obtain rfl : k = 0 := of_decide_eq_true hk
    exact ⟨hv, rfl⟩
theorem ext_new {p : Addr} {o : HO} (hp : H p = none) (trk : ∀ a, Fz a → ∃ o, H a = some o) : Ext Fz H Fz (upd H p o) where
  same := fun b u e => by rw [upd_ne (ne_of_none e hp)]; exact e
  sub := fun _ h => h
  new := fun _ h => .inl h
  trk := fun a h => by
    obtain ⟨u, e⟩ := trk a h
    exact ⟨u, by rw [upd_ne (ne_of_none e hp)]; exact e⟩
theorem ext_new' {p : Addr} {o : HO} (hp : H p = none) (trk : ∀ a, Fz a → ∃ o, H a = some o) : Ext Fz H (fun a => Fz a ∨ a = p) (upd H p o) where
  same := fun b u e => by rw [upd_ne (ne_of_none e hp)]; exact e
  sub := fun _ h => .inl h
  new := fun a h => by
    rcases h with h | rfl
    · exact .inl h
    · exact .inr hp
  trk := fun a h => by
    rcases h with h | rfl
    · obtain ⟨u, e⟩ := trk a h
      exact ⟨u, by rw [upd_ne (ne_of_none e hp)]; exact e⟩
    · exact ⟨o, upd_same⟩
/-- a new object, owned one level deep -/
theorem fin_new {d : Mp.D} {p : Addr} {o : HO} (hf : Fin C Q kd Fz H d) (trk : ∀ a, Fz a → ∃ o, H a = some o) (hk : kd1 kd = true) (hp : H p = none) (ho : Ow C Fz (upd H p o) 1 d (.ref p) [p]) : Q (.ref p) (upd H p o) := by
  have hn : ¬ Fz p := fun z => by obtain ⟨u, e⟩ := trk p z; rw [hp] at e; cases e
  have fz : Val C (fun a => Fz a ∨ a = p) (upd H p o) d (.ref p) := Ow.freeze (fun _ h => .inl h) 1 d _ [p] (fun a ha => .inr (by simpa using ha)) ho
  cases kd with
  | rd k => exact hf _ _ _ [] (ext_new' hp trk) ⟨Rd.of_val k d _ fz, rfl⟩ List.nodup_nil (fun a ha => by cases ha)
  | ow k =>
    have hk' : k = 0 ∨ k = 1 := by have : k ≤ 1 := of_decide_eq_true hk; omega
    rcases hk' with rfl | rfl
    · exact hf _ _ _ [] (ext_new' hp trk) ⟨fz, rfl⟩ List.nodup_nil (fun a ha => by cases ha)
    · refine hf _ _ _ [p] (ext_new hp trk) ho (by simp) (fun a ha => ?_)
      obtain rfl : a = p := by simpa using ha
      exact ⟨hp, hn⟩
theorem owl_of : ∀ {ds : List Mp.D} {us : List V}, Paired (Val C Fz H) ds us → OwL (Ow C Fz H 0) ds us []
  | [], _, h => by cases h; exact ⟨rfl, rfl⟩
  | d :: ds, _, h => by
    cases h with
    | cons h1 h2 => exact ⟨_, _, [], [], rfl, rfl, ⟨h1, rfl⟩, owl_of h2⟩
theorem val_keep {p : Addr} {o : HO} (hp : H p = none) {ds : List Mp.D} {us : List V} (h : Paired (Val C Fz H) ds us) : Paired (Val C Fz (upd H p o)) ds us :=
  pimp h fun d v x => Val.keep (fun _ h => h) (.of fun b u e => by rw [upd_ne (ne_of_none e hp)]; exact e) d v x
/-- a new list of frozen things -/
theorem fin_lst {ds : List Mp.D} {us : List V} {p : Addr} (hf : Fin C Q kd Fz H (.lst ds)) (trk : ∀ a, Fz a → ∃ o, H a = some o) (hk : kd1 kd = true) (hp : H p = none) (h : Paired (Val C Fz H) ds us) : Q (.ref p) (upd H p (.lst us)) :=
  fin_new hf trk hk hp ⟨p, us, [], rfl, upd_same, rfl, owl_of (val_keep hp h)⟩
theorem fin_tupN {ds : List Mp.D} {us : List V} (hf : Fin C Q kd Fz H (.tup ds)) (trk : ∀ a, Fz a → ∃ o, H a = some o) (h : Paired (Val C Fz H) ds us) : NewT us H Q := fun p o hp hn => by
  have e := ext_new (o := .frz o (.tup us)) hp trk
  have hv : Val C Fz (upd H p (.frz o (.tup us))) (.tup ds) (.ref p) := by
    simp only [Val]
    exact ⟨p, us, rfl, .inl ⟨o, upd_same, hn⟩, valL_iff.mpr (val_keep hp h)⟩
  exact fin_tup (Fin.mono e hf) e.trk hv
theorem PE.imp {X : Cx} {e : Expr} {t t' : TE} (h : PE X e t) (f : ∀ σ H Q, t' σ H Q → t σ H Q) : PE X e t' := ⟨fun pins s σ H Q I q => h.run pins s σ H Q I (f σ H Q q)⟩
theorem PT.imp {X : Cx} {e : Expr} {t t' : TT} (h : PT X e t) (f : ∀ σ H Q, t' σ H Q → t σ H Q) : PT X e t' := ⟨fun pins s σ H Q I q => h.run pins s σ H Q I (f σ H Q q)⟩
theorem PA.imp {X : Cx} {e : List Expr} {t t' : TA} (h : PA X e t) (f : ∀ σ H Q, t' σ H Q → t σ H Q) : PA X e t' := ⟨fun pos pins s σ H Q I q => h.run pos pins s σ H Q I (f σ H Q q)⟩
end
end MpS

/-! MpE2: the expressions one by one. -/
namespace MpS
open PySem PySem.Spec PyProof.Rows L2

section
variable {C : Cfg} {G : List Md} {F0 Fz Fz' Fz1 : Addr → Prop} {Hr H H' H1 : Hp} {env : List Mp.D} {σ : L2.St} {As : Nat → List Addr} {E : XK} {kd ka : Kd} {Q : VK} {sf : Mp.Sf} {W : WX}
variable {X : Cx} {a b c : Expr} {a' b' c' : Mp.E} {pos : Pos}

theorem WF.bad {r : Mp.R Mp.D} (h : WF C E kd Fz H r Q) (e : r = .bad) : False := by subst e; exact h
theorem WF.ok {r : Mp.R Mp.D} {d : Mp.D} (h : WF C E kd Fz H r Q) (e : r = .ok d) : Fin C Q kd Fz H d := by subst e; exact h
theorem pvals {ds : List Mp.D} {us : List V} (h : ValL C Fz H ds us) : Paired (Val C Fz H) ds us := valL_iff.mp h
theorem pap {α β : Type} {F : α → β → Prop} {l m : List α} {u v : List β} (h : Paired F l u) (k : Paired F m v) : Paired F (l ++ m) (u ++ v) := by
  induction h with
  | nil => exact k
  | cons x _ ih => exact .cons x ih
theorem plen {α β : Type} {F : α → β → Prop} {l : List α} {u : List β} (h : Paired F l u) : l.length = u.length := Paired.length h

theorem e_cst_int {i : Int} {j : Nat} : PE X (.Constant (.int i) j pos) (tE C G sf W kd (.cst (.int i))) :=
  PE.imp pe_int fun σ H Q ⟨F0, Fz, Hr, env, As, b, w⟩ => fin_int (show Fin C Q kd Fz H (.int i) from w) b.ext.trk
theorem e_cst_bl {i : Bool} {j : Nat} : PE X (.Constant (.bool i) j pos) (tE C G sf W kd (.cst (.bl i))) :=
  PE.imp pe_bl fun σ H Q ⟨F0, Fz, Hr, env, As, b, w⟩ => fin_bl (show Fin C Q kd Fz H (.bl i) from w) b.ext.trk
theorem e_cst_non {j : Nat} : PE X (.Constant .none j pos) (tE C G sf W kd (.cst .non)) :=
  PE.imp pe_non fun σ H Q ⟨F0, Fz, Hr, env, As, b, w⟩ => fin_non (show Fin C Q kd Fz H .non from w) b.ext.trk
theorem e_cst_str {x : Str} {j : Nat} : PE X (.Constant (.str x) j pos) (tE C G sf W kd (.cst (.str x.cps.toList))) :=
  PE.imp pe_str fun σ H Q ⟨F0, Fz, Hr, env, As, b, w⟩ => by
    have := fin_str (show Fin C Q kd Fz H (.str x.cps.toList) from w) b.ext.trk
    have e : (⟨x.cps.toList.toArray⟩ : Str) = x := by simp
    rw [e] at this
    exact this

theorem getE_ok {env : List Mp.D} {i : Nat} {d : Mp.D} (h : Mp.getE env i = .ok d) : env[i]? = some d ∧ d ≠ .un := by
  unfold Mp.getE at h
  cases q : env[i]? with
  | none => rw [q] at h; cases h
  | some x =>
    rw [q] at h
    cases x <;> first | (cases h; done) | (cases h; exact ⟨rfl, by simp⟩)
theorem getE_exc {env : List Mp.D} {i : Nat} {d : Mp.D} : Mp.getE env i ≠ .exc d := by
  unfold Mp.getE
  split <;> simp
theorem e_nm {i : Nat} {x : Str} {m : Md} (hN : X.N[i]? = some x) (hv : Vis X.env.scope x) (hd : (x == ("__debug__" : Str)) = false) (hcd : (x == ("__classdict__" : Str)) = false)
    (hm : G[i]? = some m) (hk : (match kd with | .rd k => rdOk m k | .ow 0 => rdOk m 0 | _ => false) = true) : PE X (.Name x pos) (tE C G sf W kd (.nm i)) := by
  refine PE.imp (pe_var hN hv hd hcd) fun σ H Q ⟨F0, Fz, Hr, env, As, b, w⟩ => ?_
  have w : WF C _ kd Fz H (Mp.getE env i) Q := w
  cases h : Mp.getE env i with
  | bad => exact (w.bad h).elim
  | exc d => exact absurd h getE_exc
  | ok d =>
    have hf := w.ok h
    obtain ⟨e1, e2⟩ := getE_ok h
    obtain ⟨v, ev, q⟩ := b.look hm e1 e2
    refine ⟨v, ev, ?_⟩
    have key : ∀ k, rdOk m k = true → Rd C Fz H k d v := fun k hk => by
      cases m with
      | fr => exact Rd.of_val k d v q
      | bw j => exact Rd.le j k d v (of_decide_eq_true hk) q
      | ow j => exact Rd.le j k d v (of_decide_eq_true hk) (Ow.rd j d v _ q)
      | sf => exact Rd.le 1 k d v (of_decide_eq_true hk) (Ow.rd 1 d v _ q.2)
      | al b => cases hk
      | jk => cases hk
      | ex => cases hk
    refine hf v H Fz [] (.refl b.ext.trk) ?_ List.nodup_nil (fun a ha => by cases ha)
    cases kd with
    | rd k => exact ⟨key k hk, rfl⟩
    | ow k =>
      cases k with
      | zero => exact ⟨key 0 hk, rfl⟩
      | succ k => cases hk

/-- a name for an item -/
theorem e_nma {i k : Nat} {x : Str} {m : Md} {kr : Nat} (hN : X.N[i]? = some x) (hv : Vis X.env.scope x) (hd : (x == ("__debug__" : Str)) = false) (hcd : (x == ("__classdict__" : Str)) = false)
    (hi : G[i]? = some (.al k)) (hm : G[k]? = some m) (hk : rdOk m (kr + 1) = true) : PE X (.Name x pos) (tE C G sf W (.rd kr) (.nma i k)) := by
  refine PE.imp (pe_var hN hv hd hcd) fun σ H Q ⟨F0, Fz, Hr, env, As, b, w⟩ => ?_
  have w : WF C _ (.rd kr) Fz H (match env[i]?, env[k]? with
    | some (.int j), some (.lst xs) => Mp.R.of (Mp.atL xs j)
    | _, _ => .bad) Q := w
  have hs : solid m = true := by cases m <;> first | rfl | (cases hk; done)
  rcases b.al i k m hi hm hs with h | h | ⟨j, p, us, u, xs, h1, h2, hx, h3, h4, h5⟩
  · rw [h] at w; exact (show False from w).elim
  · rw [h] at w
    have w : WF C _ (.rd kr) Fz H (match env[i]?, (some Mp.D.un) with
      | some (.int j), some (.lst xs) => Mp.R.of (Mp.atL xs j)
      | _, _ => .bad) Q := w
    split at w
    · rename_i e; cases e
    · exact (show False from w).elim
  · rw [h1, hx] at w
    have w : WF C _ (.rd kr) Fz H (Mp.R.of (Mp.atL xs (j : Int))) Q := w
    obtain ⟨v, ev, q⟩ := b.look hm hx (by simp)
    rw [h3] at ev
    cases ev
    have rd : Rd C Fz H (kr + 1) (.lst xs) (.ref p) := by
      cases m with
      | fr => exact Rd.of_val _ _ _ q
      | bw j => exact Rd.le j _ _ _ (of_decide_eq_true hk) q
      | ow j => exact Rd.le j _ _ _ (of_decide_eq_true hk) (Ow.rd j _ _ _ q)
      | sf => exact Rd.le 1 _ _ _ (of_decide_eq_true hk) (Ow.rd 1 _ _ _ q.2)
      | al b => cases hk
      | jk => cases hk
      | ex => cases hk
    obtain ⟨p', us', e', hp', l⟩ := rd
    cases e'
    rw [h4] at hp'
    cases hp'
    have hj : j < xs.length := by
      have := (List.getElem?_eq_some_iff.mp h5).1
      rw [l.length]; exact this
    have ex : Mp.atL xs (j : Int) = some xs[j] := by
      unfold Mp.atL Mp.ixL
      rw [if_pos (by omega), if_pos (by omega)]
      simp only [Option.bind_some, Int.toNat_natCast]
      exact List.getElem?_eq_getElem hj
    rw [ex] at w
    refine ⟨u, h2, ?_⟩
    have w : Fin C Q (.rd kr) Fz H xs[j] := w
    refine w u H Fz [] (.refl b.ext.trk) ⟨?_, rfl⟩ List.nodup_nil (fun a ha => by cases ha)
    have : ∀ {xs : List Mp.D} {us : List V} {j : Nat} {x : Mp.D} {u : V}, Paired (Rd C Fz H kr) xs us → xs[j]? = some x → us[j]? = some u → Rd C Fz H kr x u := by
      intro xs us j x u l
      induction l generalizing j with
      | nil => intro h _; simp at h
      | cons a _ ih =>
        intro h1 h2
        cases j with
        | zero => simp at h1 h2; subst h1 h2; exact a
        | succ j => exact ih (by simpa using h1) (by simpa using h2)
    exact this l (List.getElem?_eq_getElem hj) h5

/-! ### operators -/
theorem sz : sizeLine = Mp.LIM := sizeLine_eq
theorem fin_same {d : Mp.D} {ds : List Mp.D} {v : V} (hf : Fin C Q kd Fz H (.tup ds)) (trk : ∀ a, Fz a → ∃ o, H a = some o) {p : Addr} {us : List V} (h : TupAt C H p us) (l : Paired (Val C Fz H) ds us) : Q (.ref p) H := by
  refine fin_tup hf trk ?_
  simp only [Val]
  exact ⟨p, us, rfl, h, valL_iff.mpr l⟩
theorem e_add (hK : X.K = C.K) (hk : kd1 kd = true) (ha : PE X a (tE C G sf W (.rd 1) a')) (hb : PE X b (tE C G sf W (.rd 1) b')) : PE X (.BinOp a .Add b pos) (tE C G sf W kd (.bin .add a' b')) := by
  refine PE.imp (pe_op ((op_add.or op_cat).or (op_catF.or op_add_str)) ha hb) fun σ H Q ⟨F0, Fz, Hr, env, As, b, w⟩ => ?_
  refine go b w fun x v H1 Fz1 A1 ex e1 b1 r1 n1 f1 w1 => go b1 w1 fun y u H2 Fz2 A2 ey e2 b2 r2 n2 f2 w2 => ?_
  replace r1 := Rs.grow e2 r1
  have t2 := b2.ext.trk
  cases x <;> cases y <;> try exact (show False from w2).elim
  case int.int i j =>
    obtain rfl := Rd.int r1.1
    obtain rfl := Rd.int r2.1
    exact .inl (.inl ⟨i, j, rfl, rfl, fin_int w2 t2⟩)
  case str.str i j =>
    obtain rfl := Rd.str r1.1
    obtain rfl := Rd.str r2.1
    have w2 : WF C _ kd Fz2 H2 (if i.length + j.length ≤ Mp.LIM then .ok (.str (i ++ j)) else .bad) Q := w2
    by_cases hl : i.length + j.length ≤ Mp.LIM
    · rw [if_pos hl] at w2
      refine .inr (.inr ⟨_, _, rfl, rfl, by rw [sz]; simpa [Str.length] using hl, ?_⟩)
      have := fin_str w2 t2
      have e : (⟨(i ++ j).toArray⟩ : Str) = (⟨i.toArray⟩ : Str) ++ (⟨j.toArray⟩ : Str) := by
        show _ = (⟨i.toArray ++ j.toArray⟩ : Str)
        simp
      rw [e] at this
      exact this
    · rw [if_neg hl] at w2
      exact (show False from w2).elim
  case tup.tup i j =>
    obtain ⟨p, us, rfl, hp, lp⟩ := Rd.tup r1.1
    obtain ⟨q, vs, rfl, hq, lq⟩ := Rd.tup r2.1
    have w2 : WF C _ kd Fz2 H2 (if i.length + j.length ≤ Mp.LIM then .ok (.tup (i ++ j)) else .bad) Q := w2
    by_cases hl : i.length + j.length ≤ Mp.LIM
    · rw [if_pos hl] at w2
      have l1 := lp.length
      have l2 := lq.length
      have all := pap (pvals lp) (pvals lq)
      refine .inr (.inl ⟨p, q, us, vs, rfl, rfl, by rw [hK]; exact hp.sq, by rw [hK]; exact hq.sq, by rw [sz]; omega, fun e => ?_, fun _ e => ?_, fun _ _ => fin_tupN w2 t2 all⟩)
      · subst e
        exact fin_same (d := .un) (v := .non) w2 t2 hq (by simpa using all)
      · subst e
        exact fin_same (d := .un) (v := .non) w2 t2 hp (by simpa using all)
    · rw [if_neg hl] at w2
      exact (show False from w2).elim
  case lst.lst i j =>
    obtain ⟨p, us, rfl, hp, lp⟩ := Rd.lst r1.1
    obtain ⟨q, vs, rfl, hq, lq⟩ := Rd.lst r2.1
    have w2 : WF C _ kd Fz2 H2 (if i.length + j.length ≤ Mp.LIM then .ok (.lst (i ++ j)) else .bad) Q := w2
    by_cases hl : i.length + j.length ≤ Mp.LIM
    · rw [if_pos hl] at w2
      have l1 := plen lp
      have l2 := plen lq
      exact .inl (.inr ⟨p, q, us, vs, rfl, rfl, hp, hq, by rw [sz]; omega, fun o no => fin_lst w2 t2 hk no (pap lp lq)⟩)
    · rw [if_neg hl] at w2
      exact (show False from w2).elim
theorem e_sub (ha : PE X a (tE C G sf W (.rd 9) a')) (hb : PE X b (tE C G sf W (.rd 9) b')) : PE X (.BinOp a .Sub b pos) (tE C G sf W kd (.bin .sub a' b')) := by
  refine PE.imp (pe_op op_sub ha hb) fun σ H Q ⟨F0, Fz, Hr, env, As, b, w⟩ => ?_
  refine go b w fun x v H1 Fz1 A1 ex e1 b1 r1 n1 f1 w1 => go b1 w1 fun y u H2 Fz2 A2 ey e2 b2 r2 n2 f2 w2 => ?_
  replace r1 := Rs.grow e2 r1
  have t2 := b2.ext.trk
  cases x <;> cases y <;> try exact (show False from w2).elim
  case int.int i j =>
    obtain rfl := Rd.int r1.1
    obtain rfl := Rd.int r2.1
    exact ⟨i, j, rfl, rfl, fin_int w2 t2⟩
theorem prep {us : List V} {ds : List Mp.D} (l : Paired (Val C Fz H) ds us) : ∀ n : Nat, Paired (Val C Fz H) (List.replicate n ds).flatten (List.replicate n us).flatten
  | 0 => .nil
  | n + 1 => by
    rw [List.replicate_succ, List.replicate_succ, List.flatten_cons, List.flatten_cons]
    exact pap l (prep l n)
theorem e_mul (hk : kd1 kd = true) (ha : PE X a (tE C G sf W (.rd 1) a')) (hb : PE X b (tE C G sf W (.rd 9) b')) : PE X (.BinOp a .Mult b pos) (tE C G sf W kd (.bin .mul a' b')) := by
  refine PE.imp (pe_op (op_mul.or op_rep) ha hb) fun σ H Q ⟨F0, Fz, Hr, env, As, b, w⟩ => ?_
  refine go b w fun x v H1 Fz1 A1 ex e1 b1 r1 n1 f1 w1 => go b1 w1 fun y u H2 Fz2 A2 ey e2 b2 r2 n2 f2 w2 => ?_
  replace r1 := Rs.grow e2 r1
  have t2 := b2.ext.trk
  cases x <;> cases y <;> try exact (show False from w2).elim
  case int.int i j =>
    obtain rfl := Rd.int r1.1
    obtain rfl := Rd.int r2.1
    have w2 : WF C _ kd Fz2 H2 (if Mp.mulOk i j = true then .ok (.int (i * j)) else .bad) Q := w2
    by_cases hl : Mp.mulOk i j = true
    · rw [if_pos hl] at w2
      refine .inl ⟨i, j, rfl, rfl, ?_, fin_int w2 t2⟩
      simp only [Mp.mulOk, Bool.or_eq_true, Bool.and_eq_true, decide_eq_true_eq] at hl
      unfold CMul
      rcases hl with hl | hl
      · exact .inl ⟨by omega, by omega⟩
      · exact .inr ⟨by omega, by omega⟩
    · rw [if_neg hl] at w2
      exact (show False from w2).elim
  case lst.int i j =>
    obtain ⟨p, us, rfl, hp, lp⟩ := Rd.lst r1.1
    obtain rfl := Rd.int r2.1
    have w2 : WF C _ kd Fz2 H2 (if -9223372036854775808 ≤ j ∧ j < 9223372036854775808 ∧ i.length * j.toNat ≤ Mp.LIM then .ok (.lst (List.replicate j.toNat i).flatten) else .bad) Q := w2
    by_cases hl : -9223372036854775808 ≤ j ∧ j < 9223372036854775808 ∧ i.length * j.toNat ≤ Mp.LIM
    · rw [if_pos hl] at w2
      have l1 := plen lp
      obtain ⟨h1, h2, h3⟩ := hl
      refine .inr ⟨p, j, us, rfl, rfl, hp, by omega, by omega, by rw [sz, ← l1]; exact h3, fun o no => ?_⟩
      exact fin_lst w2 t2 hk no (prep lp _)
    · rw [if_neg hl] at w2
      exact (show False from w2).elim
theorem e_fdiv (ha : PE X a (tE C G sf W (.rd 9) a')) (hb : PE X b (tE C G sf W (.rd 9) b')) : PE X (.BinOp a .FloorDiv b pos) (tE C G sf W kd (.bin .fdiv a' b')) := by
  refine PE.imp (pe_op op_fdiv ha hb) fun σ H Q ⟨F0, Fz, Hr, env, As, b, w⟩ => ?_
  refine go b w fun x v H1 Fz1 A1 ex e1 b1 r1 n1 f1 w1 => go b1 w1 fun y u H2 Fz2 A2 ey e2 b2 r2 n2 f2 w2 => ?_
  replace r1 := Rs.grow e2 r1
  have t2 := b2.ext.trk
  cases x <;> cases y <;> try exact (show False from w2).elim
  case int.int i j =>
    obtain rfl := Rd.int r1.1
    obtain rfl := Rd.int r2.1
    have w2 : WF C _ kd Fz2 H2 (if 0 < j ∧ j < 1073741824 then .ok (.int (i / j)) else .bad) Q := w2
    by_cases hl : 0 < j ∧ j < 1073741824
    · rw [if_pos hl] at w2
      exact ⟨i, j, rfl, rfl, hl, fin_int w2 t2⟩
    · rw [if_neg hl] at w2
      exact (show False from w2).elim
theorem e_mod (ha : PE X a (tE C G sf W (.rd 9) a')) (hb : PE X b (tE C G sf W (.rd 9) b')) : PE X (.BinOp a .Mod b pos) (tE C G sf W kd (.bin .mod a' b')) := by
  refine PE.imp (pe_op op_mod ha hb) fun σ H Q ⟨F0, Fz, Hr, env, As, b, w⟩ => ?_
  refine go b w fun x v H1 Fz1 A1 ex e1 b1 r1 n1 f1 w1 => go b1 w1 fun y u H2 Fz2 A2 ey e2 b2 r2 n2 f2 w2 => ?_
  replace r1 := Rs.grow e2 r1
  have t2 := b2.ext.trk
  cases x <;> cases y <;> try exact (show False from w2).elim
  case int.int i j =>
    obtain rfl := Rd.int r1.1
    obtain rfl := Rd.int r2.1
    have w2 : WF C _ kd Fz2 H2 (if 0 < j then .ok (.int (i % j)) else .bad) Q := w2
    by_cases hl : 0 < j
    · rw [if_pos hl] at w2
      exact ⟨i, j, rfl, rfl, hl, fin_int w2 t2⟩
    · rw [if_neg hl] at w2
      exact (show False from w2).elim
theorem e_pow (ha : PE X a (tE C G sf W (.rd 9) a')) (hb : PE X b (tE C G sf W (.rd 9) b')) : PE X (.BinOp a .Pow b pos) (tE C G sf W kd (.bin .pow a' b')) := by
  refine PE.imp (pe_op op_pow ha hb) fun σ H Q ⟨F0, Fz, Hr, env, As, b, w⟩ => ?_
  refine go b w fun x v H1 Fz1 A1 ex e1 b1 r1 n1 f1 w1 => go b1 w1 fun y u H2 Fz2 A2 ey e2 b2 r2 n2 f2 w2 => ?_
  replace r1 := Rs.grow e2 r1
  have t2 := b2.ext.trk
  cases x <;> cases y <;> try exact (show False from w2).elim
  case int.int i j =>
    obtain rfl := Rd.int r1.1
    obtain rfl := Rd.int r2.1
    have w2 : WF C _ kd Fz2 H2 (if 0 ≤ j ∧ j ≤ 1000000 ∧ i.natAbs < 18446744073709551616 then .ok (.int (i ^ j.toNat)) else .bad) Q := w2
    by_cases hl : 0 ≤ j ∧ j ≤ 1000000 ∧ i.natAbs < 18446744073709551616
    · rw [if_pos hl] at w2
      exact ⟨i, j, rfl, rfl, ⟨hl.1, hl.2.1, by have := hl.2.2; omega⟩, fin_int w2 t2⟩
    · rw [if_neg hl] at w2
      exact (show False from w2).elim
theorem e_neg (ha : PE X a (tE C G sf W (.rd 9) a')) : PE X (.UnaryOp .USub a pos) (tE C G sf W kd (.neg a')) := by
  refine PE.imp (pe_un un_neg ha) fun σ H Q ⟨F0, Fz, Hr, env, As, b, w⟩ => ?_
  refine go b w fun x v H1 Fz1 A1 ex e1 b1 r1 n1 f1 w1 => ?_
  cases x <;> try exact (show False from w1).elim
  case int i =>
    obtain rfl := Rd.int r1.1
    exact ⟨i, rfl, fin_int w1 b1.ext.trk⟩

/-! ### truth -/
theorem tru_of {K : PySem.W.Frag} (hK : K = C.K) {k : Nat} {d : Mp.D} {v : V} {q : Bool} (h : Mp.truD d = .ok q) (r : Rd C Fz H k d v) : TruV K v H q := by
  cases d with
  | un => exact r.un.elim
  | non => obtain rfl := r.non; cases h; rfl
  | bl i => obtain rfl := r.bl; cases h; rfl
  | int i => obtain rfl := r.int; cases h; rfl
  | str s => cases h
  | tup ds =>
    obtain ⟨p, us, rfl, hp, l⟩ := r.tup
    cases h
    refine .inr (.inl ⟨us, by rw [hK]; exact hp.sq, ?_⟩)
    have := l.length
    cases ds <;> cases us <;> first | rfl | (simp at this)
  | lst ds =>
    obtain ⟨p, us, rfl, hp, l⟩ := r.lst
    cases h
    refine .inl ⟨us, SqL.of hp, ?_⟩
    have := plen l
    cases ds <;> cases us <;> first | rfl | (simp at this)
  | dct tk ks vs => cases h
  | ins c fs vs => cases h
  | scr ns => cases h
theorem truD_exc {d e : Mp.D} : Mp.truD d ≠ .exc e := by cases d <;> simp [Mp.truD]
theorem e_nt (hK : X.K = C.K) (ha : PE X a (tE C G sf W (.rd 9) a')) : PE X (.UnaryOp .Not a pos) (tE C G sf W kd (.nt a')) := by
  refine PE.imp (pe_notT ha) fun σ H Q ⟨F0, Fz, Hr, env, As, b, w⟩ => ?_
  refine go b w fun x v H1 Fz1 A1 ex e1 b1 r1 n1 f1 w1 => ?_
  have w1 : WF C _ kd Fz1 H1 ((Mp.truD x).bind fun b => .ok (.bl (!b))) Q := w1
  cases h : Mp.truD x with
  | bad => rw [h] at w1; exact (show False from w1).elim
  | exc e => exact absurd h truD_exc
  | ok q =>
    rw [h] at w1
    exact ⟨q, tru_of hK h r1.1, fin_bl w1 b1.ext.trk⟩
end
end MpS

/-! MpE3: the expressions one by one, 2. -/
namespace MpS
open PySem PySem.Spec PyProof.Rows L2

section
variable {C : Cfg} {G : List Md} {F0 Fz Fz' Fz1 : Addr → Prop} {Hr H H' H1 : Hp} {env : List Mp.D} {σ : L2.St} {As : Nat → List Addr} {E : XK} {kd ka : Kd} {Q : VK} {sf : Mp.Sf} {W : WX}
variable {X : Cx} {a b c : Expr} {a' b' c' : Mp.E} {pos : Pos}

/-- another kind is wanted -/
theorem tE_weak (h : ∀ Fz H d v A, Rs C ka Fz H d v A → Rs C kd Fz H d v A) {e : Mp.E} {H : Hp} {Q : VK} (q : tE C G sf W kd e σ H Q) : tE C G sf W ka e σ H Q := by
  obtain ⟨F0, Fz, Hr, env, As, b, w⟩ := q
  exact ⟨F0, Fz, Hr, env, As, b, Wg.imp w fun d _ f v H' Fz' A e r n fr => f v H' Fz' A e (h _ _ _ _ _ r) n fr⟩
theorem PE.weak0 {e : Expr} {e' : Mp.E} (hk : kd0 kd = true) (h : PE X e (tE C G sf W (.rd 0) e')) : PE X e (tE C G sf W kd e') := by
  refine PE.imp h fun σ H Q q => tE_weak (fun Fz H d v A r => ?_) q
  cases kd with
  | rd k => exact ⟨Rd.le 0 k d v (Nat.zero_le _) r.1, r.2⟩
  | ow k =>
    obtain rfl : k = 0 := of_decide_eq_true hk
    exact r
theorem e_bop (hK : X.K = C.K) (hk : kd0 kd = true) {op : BoolOp} : ∀ {es : List Expr} {es' : List Mp.E}, es ≠ [] → Paired (fun e e' => PE X e (tE C G sf W (.rd 0) e')) es es' →
    PE X (.BoolOp op es pos) (tE C G sf W kd (.bop (match op with | .And => true | .Or => false) es'))
  | [], _, h, _ => absurd rfl h
  | [e], _, _, h => by
    cases h with
    | cons h1 h2 =>
      cases h2
      refine PE.imp (pe_one (PE.weak0 hk h1)) fun σ H Q ⟨F0, Fz, Hr, env, As, b, w⟩ => ⟨F0, Fz, Hr, env, As, b, ?_⟩
      simpa only [Mp.ev, Mp.evb] using w
  | e :: e2 :: es, _, _, h => by
    cases h with
    | cons h1 h2 =>
      have ih := e_bop (op := op) hK hk (List.cons_ne_nil e2 es) h2
      cases h2 with
      | @cons _ x2 _ xs h3 h4 =>
        cases op with
        | And =>
          refine PE.imp (pe_andT h1 ih) fun σ H Q ⟨F0, Fz, Hr, env, As, b, w⟩ => ?_
          have w : WF C _ kd Fz H (Mp.evb true (_ :: x2 :: xs) sf env) Q := w
          simp only [Mp.evb] at w
          refine go b w fun x v H1 Fz1 A1 ex e1 b1 r1 n1 f1 w1 => ?_
          cases h : Mp.truD x with
          | bad => rw [h] at w1; exact (show False from w1).elim
          | exc e => exact absurd h truD_exc
          | ok q =>
            rw [h] at w1
            refine ⟨q, tru_of hK h r1.1, ?_⟩
            cases q with
            | true =>
              refine iteT ⟨F0, Fz1, Hr, env, As, b1, ?_⟩
              show WF C _ kd Fz1 H1 (Mp.evb true (x2 :: xs) sf env) Q
              simpa using w1
            | false => exact iteF (fin_val (d := x) (show WF C _ kd Fz1 H1 (.ok x) Q by simpa using w1) b1.ext.trk hk r1.1)
        | Or =>
          refine PE.imp (pe_orT h1 ih) fun σ H Q ⟨F0, Fz, Hr, env, As, b, w⟩ => ?_
          have w : WF C _ kd Fz H (Mp.evb false (_ :: x2 :: xs) sf env) Q := w
          simp only [Mp.evb] at w
          refine go b w fun x v H1 Fz1 A1 ex e1 b1 r1 n1 f1 w1 => ?_
          cases h : Mp.truD x with
          | bad => rw [h] at w1; exact (show False from w1).elim
          | exc e => exact absurd h truD_exc
          | ok q =>
            rw [h] at w1
            refine ⟨q, tru_of hK h r1.1, ?_⟩
            cases q with
            | false =>
              refine iteF ⟨F0, Fz1, Hr, env, As, b1, ?_⟩
              show WF C _ kd Fz1 H1 (Mp.evb false (x2 :: xs) sf env) Q
              simpa using w1
            | true => exact iteT (fin_val (d := x) (show WF C _ kd Fz1 H1 (.ok x) Q by simpa using w1) b1.ext.trk hk r1.1)

/-! ### == of data -/
mutual
def toPy : Mp.D → PyData
  | .bl b => .bool b
  | .int i => .int i
  | .str s => .str ⟨s.toArray⟩
  | .tup xs => .tuple (toPys xs)
  | .lst xs => .list (toPys xs)
  | _ => .none
def toPys : List Mp.D → List PyData
  | [] => []
  | d :: ds => toPy d :: toPys ds
end
theorem strOk_of {s : List Nat} (h : Mp.strOk s = true) : PyData.strOk ⟨s.toArray⟩ = true := by
  simp only [Mp.strOk, Bool.and_eq_true, List.all_eq_true, decide_eq_true_eq] at h
  unfold PyData.strOk
  simp only [List.all_toArray', List.all_eq_true, decide_eq_true_eq]
  intro x hx
  have := h.1 x hx
  omega
mutual
theorem toPy_ok : ∀ (n : Nat) (d : Mp.D), Mp.okD n d = true → (toPy d).canLay0 = true ∧ (toPy d).depth ≤ n
  | n, .un, h => by simp [Mp.okD] at h
  | n, .non, _ => ⟨by simp [toPy, PyData.canLay0], by simp [toPy, PyData.depth]⟩
  | n, .bl _, _ => ⟨by simp [toPy, PyData.canLay0], by simp [toPy, PyData.depth]⟩
  | n, .int _, _ => ⟨by simp [toPy, PyData.canLay0], by simp [toPy, PyData.depth]⟩
  | n, .str s, h => by
    have h : Mp.strOk s = true := by cases n <;> simpa [Mp.okD] using h
    exact ⟨by simpa [toPy, PyData.canLay0] using strOk_of h, by simp [toPy, PyData.depth]⟩
  | 0, .tup xs, h => by simp [Mp.okD] at h
  | 0, .lst xs, h => by simp [Mp.okD] at h
  | n + 1, .tup xs, h => by
    obtain ⟨h1, h2⟩ := toPys_ok n xs (by simpa [Mp.okD] using h)
    exact ⟨by simpa [toPy, PyData.canLay0] using h1, by simp only [toPy, PyData.depth]; omega⟩
  | n + 1, .lst xs, h => by
    obtain ⟨h1, h2⟩ := toPys_ok n xs (by simpa [Mp.okD] using h)
    exact ⟨by simpa [toPy, PyData.canLay0] using h1, by simp only [toPy, PyData.depth]; omega⟩
  | n, .dct _ _ _, h => by simp [Mp.okD] at h
  | n, .ins _ _ _, h => by simp [Mp.okD] at h
  | n, .scr _, h => by simp [Mp.okD] at h
theorem toPys_ok : ∀ (n : Nat) (ds : List Mp.D), Mp.okL n ds = true → PyData.canLayAll0 (toPys ds) = true ∧ PyData.depthAll (toPys ds) ≤ n
  | n, [], _ => ⟨by simp [toPys, PyData.canLayAll0], by simp [toPys, PyData.depthAll]⟩
  | n, d :: ds, h => by
    simp only [Mp.okL, Bool.and_eq_true] at h
    obtain ⟨h1, h2⟩ := toPy_ok n d h.1
    obtain ⟨h3, h4⟩ := toPys_ok n ds h.2
    exact ⟨by simp [toPys, PyData.canLayAll0, h1, h3], by simp only [toPys, PyData.depthAll]; omega⟩
end
theorem shaped_of {d : Mp.D} (h : Mp.okD 12 d = true) : SeqAt.shaped (toPy d) = true := by
  obtain ⟨h1, h2⟩ := toPy_ok 12 d h
  unfold SeqAt.shaped
  rw [h1, decide_eq_true (by omega)]
  rfl
theorem str_eq (a b : List Nat) : ((⟨a.toArray⟩ : Str) == ⟨b.toArray⟩) = (a == b) := by
  rw [Bool.eq_iff_iff]
  simp
mutual
theorem eqv_py : ∀ (n : Nat) (a b : Mp.D), Mp.okD n a = true → (∃ m, Mp.okD m b = true) → PyData.eqv (toPy a) (toPy b) = Mp.eqD a b
  | n, .un, _, h, _ => by simp [Mp.okD] at h
  | n, .dct _ _ _, _, h, _ => by simp [Mp.okD] at h
  | n, .ins _ _ _, _, h, _ => by simp [Mp.okD] at h
  | n, .scr _, _, h, _ => by simp [Mp.okD] at h
  | n, .non, b, _, h => by obtain ⟨m, h⟩ := h; cases b <;> simp_all [toPy, PyData.eqv, Mp.eqD, Mp.okD]
  | n, .bl x, b, _, h => by obtain ⟨m, h⟩ := h; cases b <;> simp_all [toPy, PyData.eqv, Mp.eqD, Mp.okD]
  | n, .int x, b, _, h => by obtain ⟨m, h⟩ := h; cases b <;> simp_all [toPy, PyData.eqv, Mp.eqD, Mp.okD]
  | n, .str x, b, _, h => by obtain ⟨m, h⟩ := h; cases b <;> simp_all [toPy, PyData.eqv, Mp.eqD, Mp.okD, str_eq]
  | 0, .tup xs, _, h, _ => by simp [Mp.okD] at h
  | 0, .lst xs, _, h, _ => by simp [Mp.okD] at h
  | n + 1, .tup xs, b, h, h2 => by
    obtain ⟨m, h2⟩ := h2
    cases b with
    | tup ys =>
      have h2 : ∃ m, Mp.okL m ys = true := by cases m with
        | zero => simp [Mp.okD] at h2
        | succ m => exact ⟨m, by simpa [Mp.okD] using h2⟩
      simp only [toPy, PyData.eqv, Mp.eqD]
      exact eqvs_py n xs ys (by simpa [Mp.okD] using h) h2
    | _ => simp_all [toPy, PyData.eqv, Mp.eqD, Mp.okD]
  | n + 1, .lst xs, b, h, h2 => by
    obtain ⟨m, h2⟩ := h2
    cases b with
    | lst ys =>
      have h2 : ∃ m, Mp.okL m ys = true := by cases m with
        | zero => simp [Mp.okD] at h2
        | succ m => exact ⟨m, by simpa [Mp.okD] using h2⟩
      simp only [toPy, PyData.eqv, Mp.eqD]
      exact eqvs_py n xs ys (by simpa [Mp.okD] using h) h2
    | _ => simp_all [toPy, PyData.eqv, Mp.eqD, Mp.okD]
theorem eqvs_py : ∀ (n : Nat) (as bs : List Mp.D), Mp.okL n as = true → (∃ m, Mp.okL m bs = true) → PyData.eqvAll (toPys as) (toPys bs) = Mp.eqL as bs
  | n, [], bs, _, _ => by cases bs <;> simp [toPys, PyData.eqvAll, Mp.eqL]
  | n, a :: as, bs, h, h2 => by
    cases bs with
    | nil => simp [toPys, PyData.eqvAll, Mp.eqL]
    | cons b bs =>
      obtain ⟨m, h2⟩ := h2
      simp only [Mp.okL, Bool.and_eq_true] at h h2
      simp only [toPys, PyData.eqvAll, Mp.eqL]
      rw [eqv_py n a b h.1 ⟨m, h2.1⟩, eqvs_py n as bs h.2 ⟨m, h2.2⟩]
end
mutual
theorem dp_val {K : PySem.W.Frag} (hK : K = C.K) : ∀ (n : Nat) (d : Mp.D) (v : V), Mp.okD n d = true → Val C Fz H d v → Dp K H v (toPy d)
  | n, .un, _, h, _ => by simp [Mp.okD] at h
  | n, .dct _ _ _, _, h, _ => by simp [Mp.okD] at h
  | n, .ins _ _ _, _, h, _ => by simp [Mp.okD] at h
  | n, .scr _, _, h, _ => by simp [Mp.okD] at h
  | n, .non, v, _, q => by simp only [Val] at q; subst q; simp only [toPy]; exact .non
  | n, .bl x, v, _, q => by simp only [Val] at q; subst q; simp only [toPy]; exact .bl x
  | n, .int x, v, _, q => by simp only [Val] at q; subst q; simp only [toPy]; exact .int x
  | n, .str x, v, _, q => by simp only [Val] at q; subst q; simp only [toPy]; exact .str _
  | 0, .tup xs, _, h, _ => by simp [Mp.okD] at h
  | 0, .lst xs, _, h, _ => by simp [Mp.okD] at h
  | n + 1, .tup xs, v, h, q => by
    simp only [Val] at q
    obtain ⟨p, us, rfl, hp, l⟩ := q
    simp only [toPy]
    exact .tup (by rw [hK]; exact hp.sq) (dps_val hK n xs us (by simpa [Mp.okD] using h) l)
  | n + 1, .lst xs, v, h, q => by
    simp only [Val] at q
    obtain ⟨p, us, rfl, _, hp, l⟩ := q
    simp only [toPy]
    exact .lst (SqL.of hp) (dps_val hK n xs us (by simpa [Mp.okD] using h) l)
theorem dps_val {K : PySem.W.Frag} (hK : K = C.K) : ∀ (n : Nat) (ds : List Mp.D) (us : List V), Mp.okL n ds = true → ValL C Fz H ds us → DpAll K H us (toPys ds)
  | n, [], us, _, q => by simp only [ValL] at q; subst q; simp only [toPys]; exact .nil
  | n, d :: ds, us, h, q => by
    simp only [ValL] at q
    obtain ⟨u, us', rfl, q1, q2⟩ := q
    simp only [Mp.okL, Bool.and_eq_true] at h
    simp only [toPys]
    exact .cons (dp_val hK n d u h.1 q1) (dps_val hK n ds us' h.2 q2)
end
theorem dp_pair {K : PySem.W.Frag} {P : Mp.D → V → Prop} {n : Nat} (f : ∀ d v, Mp.okD n d = true → P d v → Dp K H v (toPy d)) : ∀ {ds : List Mp.D} {us : List V}, Mp.okL n ds = true → Paired P ds us → DpAll K H us (toPys ds)
  | _, _, _, .nil => by simp only [toPys]; exact .nil
  | _, _, h, .cons q1 q2 => by
    simp only [Mp.okL, Bool.and_eq_true] at h
    simp only [toPys]
    exact .cons (f _ _ h.1 q1) (dp_pair f h.2 q2)
theorem dp_rd {K : PySem.W.Frag} (hK : K = C.K) : ∀ (k n : Nat) (d : Mp.D) (v : V), Mp.okD n d = true → Rd C Fz H k d v → Dp K H v (toPy d)
  | 0, n, d, v, h, q => dp_val hK n d v h q
  | k + 1, n, d, v, h, q => by
    cases d with
    | lst xs =>
      obtain ⟨p, us, rfl, hp, l⟩ := q
      cases n with
      | zero => simp [Mp.okD] at h
      | succ n =>
        simp only [toPy]
        exact .lst (SqL.of hp) (dp_pair (fun d v => dp_rd hK k n d v) (by simpa [Mp.okD] using h) l)
    | dct tk ks vs => simp [Mp.okD] at h
    | ins c fs vs => simp [Mp.okD] at h
    | _ => exact dp_val (Fz := Fz) hK n _ v h q
theorem eqR_ok {x y : Mp.D} {r : Bool} (h : Mp.eqR x y = .ok r) : Mp.okD 12 x = true ∧ Mp.okD 12 y = true ∧ r = Mp.eqD x y := by
  unfold Mp.eqR at h
  split at h
  · rename_i q
    cases h
    simp only [Bool.and_eq_true] at q
    exact ⟨q.1, q.2, rfl⟩
  · cases h
theorem eqR_exc {x y d : Mp.D} : Mp.eqR x y ≠ .exc d := by
  unfold Mp.eqR
  split <;> simp
theorem r_eq {K : PySem.W.Frag} (hK : K = C.K) (q : tE C G sf W kd (.cmp .eq a' b') σ H Q) : tOp (rEqD K) (tE C G sf W (.rd 9) a') (tE C G sf W (.rd 9) b') σ H Q := by
  obtain ⟨F0, Fz, Hr, env, As, b, w⟩ := q
  refine go b w fun x v H1 Fz1 A1 ex e1 b1 r1 n1 f1 w1 => go b1 w1 fun y u H2 Fz2 A2 ey e2 b2 r2 n2 f2 w2 => ?_
  replace r1 := Rs.grow e2 r1
  have w2 : WF C _ kd Fz2 H2 ((Mp.eqR x y).bind fun r => .ok (.bl r)) Q := w2
  cases h : Mp.eqR x y with
  | bad => rw [h] at w2; exact (show False from w2).elim
  | exc e => exact absurd h eqR_exc
  | ok q =>
    rw [h] at w2
    obtain ⟨h1, h2, rfl⟩ := eqR_ok h
    refine ⟨_, _, dp_rd hK _ 12 x v h1 r1.1, dp_rd hK _ 12 y u h2 r2.1, shaped_of h1, shaped_of h2, ?_⟩
    rw [eqv_py 12 x y h1 ⟨12, h2⟩]
    exact fin_bl w2 b2.ext.trk
theorem r_ne {K : PySem.W.Frag} (hK : K = C.K) (q : tE C G sf W kd (.cmp .ne a' b') σ H Q) : tOp (rNeD K) (tE C G sf W (.rd 9) a') (tE C G sf W (.rd 9) b') σ H Q := by
  obtain ⟨F0, Fz, Hr, env, As, b, w⟩ := q
  refine go b w fun x v H1 Fz1 A1 ex e1 b1 r1 n1 f1 w1 => go b1 w1 fun y u H2 Fz2 A2 ey e2 b2 r2 n2 f2 w2 => ?_
  replace r1 := Rs.grow e2 r1
  have w2 : WF C _ kd Fz2 H2 (((Mp.eqR x y).bind fun r => .ok (!r)).bind fun r => .ok (.bl r)) Q := w2
  cases h : Mp.eqR x y with
  | bad => rw [h] at w2; exact (show False from w2).elim
  | exc e => exact absurd h eqR_exc
  | ok q =>
    rw [h] at w2
    obtain ⟨h1, h2, rfl⟩ := eqR_ok h
    refine ⟨_, _, dp_rd hK _ 12 x v h1 r1.1, dp_rd hK _ 12 y u h2 r2.1, shaped_of h1, shaped_of h2, ?_⟩
    rw [eqv_py 12 x y h1 ⟨12, h2⟩]
    exact fin_bl w2 b2.ext.trk
end
end MpS

/-! MpE4: the expressions one by one, 3: comparisons, displays, subscripts, builtins. -/
namespace MpS
open PySem PySem.Spec PyProof.Rows L2

section
variable {C : Cfg} {G : List Md} {F0 Fz Fz' Fz1 : Addr → Prop} {Hr H H' H1 : Hp} {env : List Mp.D} {σ : L2.St} {As : Nat → List Addr} {E : XK} {kd ka : Kd} {Q : VK} {sf : Mp.Sf} {W : WX}
variable {X : Cx} {a b c : Expr} {a' b' c' : Mp.E} {pos : Pos}

theorem ints_of : ∀ {ds : List Mp.D} {ns : List Int} {us : List V} {P : Mp.D → V → Prop}, Mp.toIs ds = some ns → Paired P ds us → (∀ i v, P (.int i) v → v = .int i) → us = ns.map V.int
  | [], ns, us, P, h, l, _ => by
    cases l
    cases h
    rfl
  | d :: ds, ns, us, P, h, l, f => by
    cases l with
    | @cons _ u _ us' h1 h2 =>
      unfold Mp.toIs at h
      cases d with
      | int i =>
        cases q : Mp.toIs ds with
        | none => rw [q] at h; simp [Mp.toI] at h
        | some is =>
          rw [q] at h
          simp only [Mp.toI, Option.some.injEq] at h
          subst h
          rw [f i u h1, ints_of q h2 f]
          rfl
      | _ => simp [Mp.toI] at h
theorem val_int {i : Int} {v : V} (h : Val C Fz H (.int i) v) : v = .int i := by simpa only [Val] using h
def rCmpI (p : Int → Int → Bool) : R2 := rI0 fun i j => .bl (p i j)
theorem r_lt {K : PySem.W.Frag} (hK : K = C.K) (q : tE C G sf W kd (.cmp .lt a' b') σ H Q) : tOp (fun x y H Q => rI0 (fun i j => .bl (decide (i < j))) x y H Q ∨ rLtT K x y H Q) (tE C G sf W (.rd 9) a') (tE C G sf W (.rd 9) b') σ H Q := by
  obtain ⟨F0, Fz, Hr, env, As, b, w⟩ := q
  refine go b w fun x v H1 Fz1 A1 ex e1 b1 r1 n1 f1 w1 => go b1 w1 fun y u H2 Fz2 A2 ey e2 b2 r2 n2 f2 w2 => ?_
  replace r1 := Rs.grow e2 r1
  have t2 := b2.ext.trk
  cases x <;> cases y <;> try exact (show False from w2).elim
  case int.int i j =>
    obtain rfl := Rd.int r1.1
    obtain rfl := Rd.int r2.1
    exact .inl ⟨i, j, rfl, rfl, fin_bl w2 t2⟩
  case tup.tup i j =>
    obtain ⟨p, us, rfl, hp, lp⟩ := Rd.tup r1.1
    obtain ⟨q, vs, rfl, hq, lq⟩ := Rd.tup r2.1
    have w2 : WF C _ kd Fz2 H2 ((match Mp.toIs i, Mp.toIs j with | some x, some y => .ok (Mp.ltT x y) | _, _ => .bad : Mp.R Bool).bind fun b => .ok (.bl b)) Q := w2
    cases h1 : Mp.toIs i with
    | none => rw [h1] at w2; exact (show False from w2).elim
    | some ns =>
      cases h2 : Mp.toIs j with
      | none => rw [h1, h2] at w2; exact (show False from w2).elim
      | some ms =>
        rw [h1, h2] at w2
        have e1 := ints_of h1 (pvals lp) fun i v => val_int
        have e2 := ints_of h2 (pvals lq) fun i v => val_int
        subst e1 e2
        refine .inr ⟨p, q, ns, ms, rfl, rfl, by rw [hK]; exact hp.sq, by rw [hK]; exact hq.sq, ?_⟩
        have e : HT.lexLt ns ms = Mp.ltT ns ms := by
          clear w2 h1 h2 r1 r2 lp lq hp hq
          induction ns generalizing ms with
          | nil => cases ms <;> rfl
          | cons x xs ih =>
            cases ms with
            | nil => rfl
            | cons y ys => simp only [HT.lexLt, Mp.ltT, ih]
        rw [e]
        exact fin_bl w2 t2
theorem r_le (q : tE C G sf W kd (.cmp .le a' b') σ H Q) : tOp (rI0 fun i j => .bl (decide (i ≤ j))) (tE C G sf W (.rd 9) a') (tE C G sf W (.rd 9) b') σ H Q := by
  obtain ⟨F0, Fz, Hr, env, As, b, w⟩ := q
  refine go b w fun x v H1 Fz1 A1 ex e1 b1 r1 n1 f1 w1 => go b1 w1 fun y u H2 Fz2 A2 ey e2 b2 r2 n2 f2 w2 => ?_
  replace r1 := Rs.grow e2 r1
  cases x <;> cases y <;> try exact (show False from w2).elim
  case int.int i j =>
    obtain rfl := Rd.int r1.1
    obtain rfl := Rd.int r2.1
    exact ⟨i, j, rfl, rfl, fin_bl w2 b2.ext.trk⟩
theorem r_gt (q : tE C G sf W kd (.cmp .gt a' b') σ H Q) : tOp (rI0 fun i j => .bl (decide (j < i))) (tE C G sf W (.rd 9) a') (tE C G sf W (.rd 9) b') σ H Q := by
  obtain ⟨F0, Fz, Hr, env, As, b, w⟩ := q
  refine go b w fun x v H1 Fz1 A1 ex e1 b1 r1 n1 f1 w1 => go b1 w1 fun y u H2 Fz2 A2 ey e2 b2 r2 n2 f2 w2 => ?_
  replace r1 := Rs.grow e2 r1
  cases x <;> cases y <;> try exact (show False from w2).elim
  case int.int i j =>
    obtain rfl := Rd.int r1.1
    obtain rfl := Rd.int r2.1
    exact ⟨i, j, rfl, rfl, fin_bl w2 b2.ext.trk⟩
theorem r_ge (q : tE C G sf W kd (.cmp .ge a' b') σ H Q) : tOp (rI0 fun i j => .bl (decide (j ≤ i))) (tE C G sf W (.rd 9) a') (tE C G sf W (.rd 9) b') σ H Q := by
  obtain ⟨F0, Fz, Hr, env, As, b, w⟩ := q
  refine go b w fun x v H1 Fz1 A1 ex e1 b1 r1 n1 f1 w1 => go b1 w1 fun y u H2 Fz2 A2 ey e2 b2 r2 n2 f2 w2 => ?_
  replace r1 := Rs.grow e2 r1
  cases x <;> cases y <;> try exact (show False from w2).elim
  case int.int i j =>
    obtain rfl := Rd.int r1.1
    obtain rfl := Rd.int r2.1
    exact ⟨i, j, rfl, rfl, fin_bl w2 b2.ext.trk⟩

/-! ### dicts: keys -/
theorem keyOf_val {d : Mp.D} {k : Key} {v : V} (h : keyOf d = some k) (q : Val C Fz H d v) : v = kV k := by
  cases d with
  | int i => simp only [keyOf, Option.some.injEq] at h; subst h; (simp only [Val] at q; exact q)
  | str s => simp only [keyOf, Option.some.injEq] at h; subst h; (simp only [Val] at q; exact q)
  | _ => cases h
theorem keysOf_val : ∀ {ds : List Mp.D} {ks : List Key} {us : List V}, keysOf ds = some ks → Paired (Val C Fz H) ds us → us = ks.map kV
  | [], ks, us, h, l => by cases l; cases h; rfl
  | d :: ds, ks, us, h, l => by
    cases l with
    | @cons _ u _ us' h1 h2 =>
      unfold keysOf at h
      cases q : keyOf d with
      | none => rw [q] at h; cases h
      | some k =>
        cases q2 : keysOf ds with
        | none => rw [q, q2] at h; cases h
        | some ks' =>
          rw [q, q2] at h
          cases h
          rw [keyOf_val q h1, keysOf_val q2 h2]
          rfl
theorem keyOf_eq {a b : Mp.D} {k l : Key} (ha : keyOf a = some k) (hb : keyOf b = some l) : Mp.eqD a b = decide (k = l) := by
  cases a with
  | int i =>
    cases b with
    | int j => cases ha; cases hb; rw [key_ll]; simp [Mp.eqD]
    | str t => cases ha; cases hb; rw [key_lr]; simp [Mp.eqD]
    | _ => cases hb
  | str s =>
    cases b with
    | int j => cases ha; cases hb; rw [key_rl]; simp [Mp.eqD]
    | str t =>
      cases ha; cases hb
      rw [key_rr]
      simp [Mp.eqD, Bool.beq_eq_decide_eq]
    | _ => cases hb
  | _ => cases ha
theorem keysOf_eq : ∀ {as bs : List Mp.D} {k l : List Key}, keysOf as = some k → keysOf bs = some l → Mp.eqL as bs = decide (k = l)
  | [], [], k, l, ha, hb => by cases ha; cases hb; simp [Mp.eqL]
  | [], b :: bs, k, l, ha, hb => by
    cases ha
    unfold keysOf at hb
    split at hb
    · cases hb; simp [Mp.eqL]
    · cases hb
  | a :: as, [], k, l, ha, hb => by
    cases hb
    unfold keysOf at ha
    split at ha
    · cases ha; simp [Mp.eqL]
    · cases ha
  | a :: as, b :: bs, k, l, ha, hb => by
    unfold keysOf at ha hb
    split at ha
    · rename_i k1 ks1 h1 h2
      split at hb
      · rename_i k2 ks2 h3 h4
        cases ha; cases hb
        simp only [Mp.eqL]
        rw [keyOf_eq h1 h3, keysOf_eq h2 h4, Bool.eq_iff_iff]
        simp
      · cases hb
    · cases ha
theorem keyT_eq {a b : Mp.D} {k l : List Key} (ha : keyT a = some k) (hb : keyT b = some l) : Mp.eqD a b = decide (k = l) := by
  cases a with
  | tup as =>
    cases b with
    | tup bs => simp only [Mp.eqD]; exact keysOf_eq ha hb
    | _ => cases hb
  | _ => cases ha
/-- a look into a dict -/
theorem dget_at {κ : Type} [DecidableEq κ] {kf : Mp.D → Option κ} (hq : ∀ a b k l, kf a = some k → kf b = some l → Mp.eqD a b = decide (k = l)) {x : Mp.D} {k : κ} (hx : kf x = some k) :
    ∀ {ks : List Mp.D} {kk : List κ} {vs : List Mp.D} {us : List V}, ks.map kf = kk.map some → ks.length = us.length → Paired (Val C Fz H) vs us →
      (match Mp.dget ks vs x with | some d => ∃ u, valV (kk.zip us) k = some u ∧ Val C Fz H d u | none => valV (kk.zip us) k = none)
  | [], kk, vs, us, e, hl, l => by
    cases us with
    | cons _ _ => simp at hl
    | nil =>
      cases l
      simp only [Mp.dget, List.zip_nil_right]
      rfl
  | a :: ks, kk, vs, us, e, hl, l => by
    cases kk with
    | nil => simp at e
    | cons b kk =>
      cases l with
      | nil => simp at hl
      | @cons d u vs us h1 h2 =>
        simp only [List.map_cons, List.cons.injEq] at e
        simp only [Mp.dget, List.zip_cons_cons]
        rw [hq a x b k e.1 hx]
        by_cases hb : b = k
        · rw [if_pos (by simpa using hb)]
          exact ⟨u, valV_pos (p := (b, u)) hb, h1⟩
        · rw [if_neg (by simpa using hb)]
          rw [valV_neg (p := (b, u)) hb]
          exact dget_at hq hx e.2 (by simpa using hl) h2
theorem keyD_T {x : Mp.D} (h : Mp.keyD true x = true) : ∃ xs k, x = .tup xs ∧ keysOf xs = some k ∧ k ≠ [] := by
  cases x with
  | tup xs =>
    refine ⟨xs, ?_⟩
    cases xs with
    | nil => cases h
    | cons y ys =>
      have h : (y :: ys).all Mp.keyOk = true := h
      have all : ∀ zs : List Mp.D, zs.all Mp.keyOk = true → ∃ k, keysOf zs = some k := fun zs => by
        induction zs with
        | nil => intro _; exact ⟨[], rfl⟩
        | cons z zs ih =>
          intro hz
          simp only [List.all_cons, Bool.and_eq_true] at hz
          obtain ⟨k, hk⟩ := ih hz.2
          cases z with
          | int i => exact ⟨.inl i :: k, by simp [keysOf, keyOf, hk]⟩
          | str s => exact ⟨.inr ⟨s.toArray⟩ :: k, by simp [keysOf, keyOf, hk]⟩
          | _ => cases hz.1
      obtain ⟨k, hk⟩ := all _ h
      refine ⟨k, rfl, hk, fun z => ?_⟩
      subst z
      unfold keysOf at hk
      split at hk
      · cases hk
      · cases hk
  | _ => cases h
theorem keyD_K {x : Mp.D} (h : Mp.keyD false x = true) : ∃ k, keyOf x = some k := by
  cases x with
  | int i => exact ⟨_, rfl⟩
  | str s => exact ⟨_, rfl⟩
  | _ => cases h
theorem rdVal {k : Nat} {x : Mp.D} {v : V} (h : Rd C Fz H k x v) (h1 : ∀ ds, x ≠ .lst ds) (h2 : ∀ tk ks vs, x ≠ .dct tk ks vs) (h3 : ∀ c fs vs, x ≠ .ins c fs vs) : Val C Fz H x v := by
  cases k with
  | zero => exact h
  | succ k =>
    cases x with
    | lst ds => exact absurd rfl (h1 ds)
    | dct tk ks vs => exact absurd rfl (h2 _ _ _)
    | ins c fs vs => exact absurd rfl (h3 _ _ _)
    | _ => exact h
/-- what a dict holds at a key -/
theorem dget_rd {kx : Nat} {p : Addr} {tk : Bool} {ks vs : List Mp.D} {us : List V} {x : Mp.D} {v : V} (hd : DctAt H p tk ks us) (hv : ValL C Fz H vs us) (hk : Mp.keyD tk x = true) (rx : Rd C Fz H kx x v) :
    ∃ o : Option V, DGt H p v o ∧ (match Mp.dget ks vs x with | some d => ∃ u, o = some u ∧ Val C Fz H d u | none => o = none) := by
  obtain ⟨hl, hd⟩ := hd
  cases tk with
  | true =>
    obtain ⟨kk, e, h, ne⟩ := hd
    obtain ⟨xs, k, rfl, hx, hn⟩ := keyD_T hk
    obtain ⟨b, us', rfl, hb, lb⟩ := rx.tup
    have eu := keysOf_val hx (pvals lb)
    have hb' : TupT H b (k.map kV) := by
      rcases hb with ⟨o, hb, _⟩ | ⟨z, _⟩
      · exact .inr ⟨o, by rw [hb, eu]⟩
      · rw [eu] at z
        exact absurd (List.map_eq_nil_iff.mp z) hn
    have q := dget_at (kf := keyT) (x := .tup xs) (k := k) (fun a b k l => keyT_eq) hx e hl (pvals hv)
    refine ⟨_, .inr ⟨_, k, b, h, rfl, hb', rfl⟩, ?_⟩
    cases g : Mp.dget ks vs (.tup xs) with
    | none => rw [g] at q; exact q
    | some d => rw [g] at q; exact q
  | false =>
    obtain ⟨kk, e, h, _⟩ := hd
    obtain ⟨k, hx⟩ := keyD_K hk
    have ev : v = kV k := keyOf_val hx (rdVal rx (by rintro ds rfl; cases hx) (by rintro _ _ _ rfl; cases hx) (by rintro _ _ _ rfl; cases hx))
    subst ev
    have q := dget_at (kf := keyOf) (fun a b k l => keyOf_eq) hx e hl (pvals hv)
    refine ⟨_, .inl ⟨_, k, h, rfl, rfl⟩, ?_⟩
    cases g : Mp.dget ks vs x with
    | none => rw [g] at q; exact q
    | some d => rw [g] at q; exact q

/-! ### in -/
def rInT : R2 := fun x y H Q => ∃ p o, y = .ref p ∧ DGt H p x o ∧ Q (.bl o.isSome) H
def rNotInT : R2 := fun x y H Q => ∃ p o, y = .ref p ∧ DGt H p x o ∧ Q (.bl (!o.isSome)) H
theorem op_inT (hu : X.A.units + 1 < cLine) : OpR X (compareOp .In) rInT := by
  intro pins s σ H x y v u Q I rx ry h
  obtain ⟨p, o, rfl, g, q⟩ := h
  obtain rfl : u = Value.ref p := ry
  exact gt_in hu I g rx fun s3 I3 => ⟨.bl o.isSome, H, I3, rfl, q⟩
theorem op_notInT (hu : X.A.units + 1 < cLine) : OpR X (compareOp .NotIn) rNotInT := by
  intro pins s σ H x y v u Q I rx ry h
  obtain ⟨p, o, rfl, g, q⟩ := h
  obtain rfl : u = Value.ref p := ry
  exact gt_notIn hu I g rx fun s3 I3 => ⟨.bl (!o.isSome), H, I3, rfl, q⟩
def rMem (K : PySem.W.Frag) : R2 := fun x y H Q => rInD K x y H Q ∨ rIn K false x y H Q ∨ rInT x y H Q
def rNMem (K : PySem.W.Frag) : R2 := fun x y H Q => rNotInD K x y H Q ∨ rIn K true x y H Q ∨ rNotInT x y H Q
theorem op_mem (hu : X.A.units + 65 < cLine) : OpR X (compareOp .In) (rMem X.K) := (op_inD hu).or (op_in_seq.or (op_inT (by omega)))
theorem op_nmem (hu : X.A.units + 65 < cLine) : OpR X (compareOp .NotIn) (rNMem X.K) := (op_notInD hu).or (op_notIn_seq.or (op_notInT (by omega)))
theorem memL_py : ∀ (n : Nat) (x : Mp.D) (ys : List Mp.D), Mp.okD 12 x = true → Mp.okL n ys = true → ((toPys ys).any fun z => PyData.eqv z (toPy x)) = Mp.memL x ys
  | n, x, [], _, _ => by simp [toPys, Mp.memL]
  | n, x, y :: ys, h, hl => by
    simp only [Mp.okL, Bool.and_eq_true] at hl
    simp only [toPys, Mp.memL, List.any_cons]
    rw [eqv_py n y x hl.1 ⟨12, h⟩, memL_py n x ys h hl.2]
theorem flat_val {d : Mp.D} {v : V} (h : Mp.flatD d = true) (q : Val C Fz H d v) : flatV v = true := by
  cases d <;> first | (cases h; done) | (simp only [Val] at q; subst q; rfl)
theorem flat_rd {k : Nat} {d : Mp.D} {v : V} (h : Mp.flatD d = true) (q : Rd C Fz H k d v) : Val C Fz H d v :=
  rdVal q (by rintro ds rfl; cases h) (by rintro _ _ _ rfl; cases h) (by rintro _ _ _ rfl; cases h)
theorem eqV_eq {x y : Mp.D} {u v : V} (hx : Mp.flatD x = true) (hy : Mp.flatD y = true) (qx : Val C Fz H x u) (qy : Val C Fz H y v) : eqV u v = Mp.eqD x y := by
  cases x <;> first | (cases hx; done) | (cases y <;> first | (cases hy; done) | (simp only [Val] at qx qy; subst qx qy; simp [eqV, Mp.eqD, str_eq]))
theorem inV_eq {x : Mp.D} {v : V} (hx : Mp.flatD x = true) (qx : Val C Fz H x v) : ∀ {ys : List Mp.D} {us : List V}, ys.all Mp.flatD = true → Paired (Val C Fz H) ys us → inV v us = Mp.memL x ys ∧ us.all flatV = true
  | [], _, _, l => by cases l; exact ⟨rfl, rfl⟩
  | y :: ys, _, h, l => by
    cases l with
    | cons h1 h2 =>
      simp only [List.all_cons, Bool.and_eq_true] at h
      obtain ⟨i1, i2⟩ := inV_eq hx qx h.2 h2
      constructor
      · simp only [inV, List.any_cons, Mp.memL] at i1 ⊢
        rw [eqV_eq h.1 hx h1 qx, i1]
      · simp only [List.all_cons, Bool.and_eq_true]
        exact ⟨flat_val h.1 h1, i2⟩
theorem r_mem0 {K : PySem.W.Frag} (hK : K = C.K) {x y : Mp.D} {v u : V} {kx ky : Nat} {r : Bool} (h : Mp.memD x y = .ok r) (rx : Rd C Fz H kx x v) (ry : Rd C Fz H ky y u) :
    (∀ Q : VK, Q (.bl r) H → rMem K v u H Q) ∧ ∀ Q : VK, Q (.bl (!r)) H → rNMem K v u H Q := by
  cases y with
  | lst ys =>
    have h : (if (Mp.okD 12 x && Mp.okL 12 ys) = true then .ok (Mp.memL x ys) else .bad : Mp.R Bool) = .ok r := h
    split at h
    · rename_i hc
      simp only [Bool.and_eq_true] at hc
      cases h
      have hy : Mp.okD 13 (.lst ys) = true := by simpa [Mp.okD] using hc.2
      have dx := dp_rd hK kx 12 x v hc.1 rx
      have dy := dp_rd hK ky 13 (.lst ys) u hy ry
      have sy : SeqAt.shaped (.list (toPys ys)) = true := by
        obtain ⟨h1, h2⟩ := toPy_ok 13 (.lst ys) hy
        simp only [toPy] at h1 h2
        unfold SeqAt.shaped
        rw [h1, decide_eq_true (by omega)]
        rfl
      simp only [toPy] at dy
      exact ⟨fun Q q => .inl ⟨_, _, dx, dy, shaped_of hc.1, sy, by rw [memL_py 12 x ys hc.1 hc.2]; exact q⟩, fun Q q => .inl ⟨_, _, dx, dy, shaped_of hc.1, sy, by rw [memL_py 12 x ys hc.1 hc.2]; exact q⟩⟩
    · cases h
  | tup ys =>
    have h : (if (Mp.flatD x && ys.all Mp.flatD) = true then .ok (Mp.memL x ys) else .bad : Mp.R Bool) = .ok r := h
    split at h
    · rename_i hc
      simp only [Bool.and_eq_true] at hc
      cases h
      obtain ⟨p, us, rfl, hp, l⟩ := ry.tup
      have qx := flat_rd hc.1 rx
      obtain ⟨i1, i2⟩ := inV_eq hc.1 qx hc.2 (pvals l)
      refine ⟨fun Q q => .inr (.inl ⟨p, us, rfl, .inr (by rw [hK]; exact hp.sq), flat_val hc.1 qx, i2, ?_⟩), fun Q q => .inr (.inl ⟨p, us, rfl, .inr (by rw [hK]; exact hp.sq), flat_val hc.1 qx, i2, ?_⟩)⟩
      · rw [if_neg Bool.false_ne_true, i1]; exact q
      · rw [if_pos rfl, i1]; exact q
    · cases h
  | dct tk ks vs =>
    have h : (if Mp.keyD tk x = true then .ok (Mp.dget ks vs x).isSome else .bad : Mp.R Bool) = .ok r := h
    split at h
    · rename_i hc
      cases h
      obtain ⟨p, us, rfl, hd, l⟩ := ry.dct
      obtain ⟨o, g, q⟩ := dget_rd hd l hc rx
      have e : o.isSome = (Mp.dget ks vs x).isSome := by
        cases z : Mp.dget ks vs x with
        | none =>
          rw [z] at q
          have q : o = none := q
          rw [q]
          rfl
        | some d => rw [z] at q; obtain ⟨u, rfl, _⟩ := q; rfl
      exact ⟨fun Q q => .inr (.inr ⟨p, o, rfl, g, by rw [e]; exact q⟩), fun Q q => .inr (.inr ⟨p, o, rfl, g, by rw [e]; exact q⟩)⟩
    · cases h
  | _ => cases h
theorem memD_exc {x y d : Mp.D} : Mp.memD x y ≠ .exc d := by
  cases y <;> simp only [Mp.memD] <;> (try split) <;> simp
theorem r_mem {K : PySem.W.Frag} (hK : K = C.K) (q : tE C G sf W kd (.cmp .mem a' b') σ H Q) : tOp (rMem K) (tE C G sf W (.rd 9) a') (tE C G sf W (.rd 9) b') σ H Q := by
  obtain ⟨F0, Fz, Hr, env, As, b, w⟩ := q
  refine go b w fun x v H1 Fz1 A1 ex e1 b1 r1 n1 f1 w1 => go b1 w1 fun y u H2 Fz2 A2 ey e2 b2 r2 n2 f2 w2 => ?_
  replace r1 := Rs.grow e2 r1
  have w2 : WF C _ kd Fz2 H2 ((Mp.memD x y).bind fun r => .ok (.bl r)) Q := w2
  cases h : Mp.memD x y with
  | bad => rw [h] at w2; exact (show False from w2).elim
  | exc e => exact absurd h memD_exc
  | ok q =>
    rw [h] at w2
    exact (r_mem0 hK h r1.1 r2.1).1 Q (fin_bl w2 b2.ext.trk)
theorem r_nmem {K : PySem.W.Frag} (hK : K = C.K) (q : tE C G sf W kd (.cmp .nmem a' b') σ H Q) : tOp (rNMem K) (tE C G sf W (.rd 9) a') (tE C G sf W (.rd 9) b') σ H Q := by
  obtain ⟨F0, Fz, Hr, env, As, b, w⟩ := q
  refine go b w fun x v H1 Fz1 A1 ex e1 b1 r1 n1 f1 w1 => go b1 w1 fun y u H2 Fz2 A2 ey e2 b2 r2 n2 f2 w2 => ?_
  replace r1 := Rs.grow e2 r1
  have w2 : WF C _ kd Fz2 H2 (((Mp.memD x y).bind fun r => .ok (!r)).bind fun r => .ok (.bl r)) Q := w2
  cases h : Mp.memD x y with
  | bad => rw [h] at w2; exact (show False from w2).elim
  | exc e => exact absurd h memD_exc
  | ok q =>
    rw [h] at w2
    exact (r_mem0 hK h r1.1 r2.1).2 Q (fin_bl w2 b2.ext.trk)
theorem r_isn {ng : Bool} (q : tE C G sf W kd (.isn a' ng) σ H Q) : tE C G sf W (.rd 9) a' σ H fun x H1 => Q (.bl (if ng then !decide (x = .non) else decide (x = .non))) H1 := by
  obtain ⟨F0, Fz, Hr, env, As, b, w⟩ := q
  refine go b w fun x v H1 Fz1 A1 ex e1 b1 r1 n1 f1 w1 => ?_
  have t1 := b1.ext.trk
  have key : ∀ q, Mp.isNon x = .ok q → decide (v = .non) = q := fun q hq => by
    cases x with
    | un => cases hq
    | non => obtain rfl := r1.1.non; cases hq; rfl
    | bl _ => obtain rfl := r1.1.bl; cases hq; rfl
    | int _ => obtain rfl := r1.1.int; cases hq; rfl
    | str _ => obtain rfl := r1.1.str; cases hq; rfl
    | tup _ => obtain ⟨_, _, rfl, _⟩ := r1.1.tup; cases hq; rfl
    | lst _ => obtain ⟨_, _, rfl, _⟩ := r1.1.lst; cases hq; rfl
    | dct _ _ _ => obtain ⟨_, _, rfl, _⟩ := r1.1.dct; cases hq; rfl
    | ins _ _ _ => obtain ⟨_, _, _, _, rfl, _⟩ := r1.1.ins; cases hq; rfl
    | scr _ => obtain ⟨_, rfl, _⟩ := r1.1.scr; cases hq; rfl
  have w1 : WF C _ kd Fz1 H1 ((Mp.isNon x).bind fun b => .ok (.bl (if ng = true then !b else b))) Q := w1
  cases h : Mp.isNon x with
  | bad => rw [h] at w1; exact (show False from w1).elim
  | exc e => cases x <;> cases h
  | ok q =>
    rw [h] at w1
    rw [key q h]
    exact fin_bl w1 t1
theorem r_chn {o1 o2 : Mp.Cp} {p1 p2 : Int → Int → Bool} (h1 : ∀ x y, (Mp.cmpI o1 x y = .bad) ∨ ∃ i j, x = .int i ∧ y = .int j ∧ Mp.cmpI o1 x y = .ok (p1 i j)) (h2 : ∀ x y, (Mp.cmpI o2 x y = .bad) ∨ ∃ i j, x = .int i ∧ y = .int j ∧ Mp.cmpI o2 x y = .ok (p2 i j))
    (q : tE C G sf W kd (.chn o1 o2 a' b' c') σ H Q) : tChain (rI0 fun i j => .bl (p1 i j)) (rI0 fun i j => .bl (p2 i j)) (tE C G sf W (.rd 9) a') (tE C G sf W (.rd 9) b') (tE C G sf W (.rd 9) c') σ H Q := by
  obtain ⟨F0, Fz, Hr, env, As, b, w⟩ := q
  refine go b w fun x v H1 Fz1 A1 ex e1 b1 r1 n1 f1 w1 => go b1 w1 fun y u H2 Fz2 A2 ey e2 b2 r2 n2 f2 w2 => ?_
  replace r1 := Rs.grow e2 r1
  rcases h1 x y with hb | ⟨i, j, rfl, rfl, hb⟩
  · rw [hb] at w2; exact (show False from w2).elim
  · rw [hb] at w2
    obtain rfl := Rd.int r1.1
    obtain rfl := Rd.int r2.1
    refine ⟨i, j, rfl, rfl, _, rfl, ?_⟩
    have w2 : WF C _ kd Fz2 H2 (if p1 i j = true then (Mp.ev c' sf env).bind fun z => (Mp.cmpI o2 (.int j) z).bind fun q => .ok (.bl q) else .ok (.bl false)) Q := w2
    cases hp : p1 i j with
    | false =>
      rw [hp, if_neg Bool.false_ne_true] at w2
      exact iteF (fin_bl w2 b2.ext.trk)
    | true =>
      rw [hp, if_pos rfl] at w2
      refine iteT (go b2 w2 fun z t H3 Fz3 A3 ez e3 b3 r3 n3 f3 w3 => ?_)
      rcases h2 (.int j) z with hb | ⟨i', j', e, rfl, hb⟩
      · rw [hb] at w3; exact (show False from w3).elim
      · cases e
        rw [hb] at w3
        obtain rfl := Rd.int r3.1
        exact ⟨_, j', rfl, rfl, fin_bl w3 b3.ext.trk⟩
end
end MpS

/-! MpE5: tests; displays, subscripts, slices, attributes. -/
namespace MpS
open PySem PySem.Spec PyProof.Rows L2

/-- a test's reading -/
def tT (C : Cfg) (G : List Md) (sf : Mp.Sf) (W : WX) (e : Mp.E) : TT := fun σ H Q =>
  ∃ F0 Fz Hr env As, BI C G F0 Fz Hr env σ H As ∧ Wg C (fun cls dx H' => W cls dx σ H') Fz H ((Mp.ev e sf env).bind Mp.truD) fun b => ∀ H' Fz', Ext Fz H Fz' H' → Q b H'

section
variable {C : Cfg} {G : List Md} {F0 Fz Fz' Fz1 : Addr → Prop} {Hr H H' H1 : Hp} {env : List Mp.D} {σ : L2.St} {As : Nat → List Addr} {E : XK} {kd ka : Kd} {Q : VK} {sf : Mp.Sf} {W : WX}
variable {X : Cx} {a b c : Expr} {a' b' c' : Mp.E} {pos : Pos}

/-- what gives a bool -/
def IsB (e : Mp.E) (sf : Mp.Sf) : Prop := ∀ env d, Mp.ev e sf env = .ok d → ∃ b, d = .bl b
theorem tT_test {e : Mp.E} {Q : Bool → Hp → Prop} (h : IsB e sf) (q : tT C G sf W e σ H Q) : tE C G sf W (.rd 9) e σ H fun x H' => ∃ k, x = .bl k ∧ Q k H' := by
  obtain ⟨F0, Fz, Hr, env, As, b, w⟩ := q
  refine ⟨F0, Fz, Hr, env, As, b, (Wg.bind w).imp fun d e1 q => ?_⟩
  obtain ⟨r, rfl⟩ := h env d e1
  exact fun v H' Fz' A e rv n f => ⟨r, Rd.bl rv.1, q H' Fz' e⟩
theorem isB_cmp {o : Mp.Cp} : IsB (.cmp o a' b') sf := fun env d h => by
  simp only [Mp.ev] at h
  cases h1 : Mp.ev a' sf env <;> rw [h1] at h <;> try (cases h; done)
  cases h2 : Mp.ev b' sf env <;> rw [h2] at h <;> try (cases h; done)
  rename_i x y
  simp only [Mp.R.bind_ok] at h
  cases h3 : Mp.cmpD o x y <;> rw [h3] at h <;> cases h
  exact ⟨_, rfl⟩
theorem isB_isn {n : Bool} : IsB (.isn a' n) sf := fun env d h => by
  simp only [Mp.ev] at h
  cases h1 : Mp.ev a' sf env <;> rw [h1] at h <;> try (cases h; done)
  rename_i x
  simp only [Mp.R.bind_ok] at h
  cases h3 : Mp.isNon x <;> rw [h3] at h <;> cases h
  exact ⟨_, rfl⟩
theorem isB_chn {o p : Mp.Cp} : IsB (.chn o p a' b' c') sf := fun env d h => by
  simp only [Mp.ev] at h
  cases h1 : Mp.ev a' sf env <;> rw [h1] at h <;> try (cases h; done)
  cases h2 : Mp.ev b' sf env <;> rw [h2] at h <;> try (cases h; done)
  rename_i x y
  simp only [Mp.R.bind_ok] at h
  cases h3 : Mp.cmpI o x y <;> rw [h3] at h <;> try (cases h; done)
  rename_i r
  simp only [Mp.R.bind_ok] at h
  cases r with
  | false => simp only [Bool.false_eq_true, if_false] at h; cases h; exact ⟨_, rfl⟩
  | true =>
    simp only [if_true] at h
    cases h4 : Mp.ev c' sf env <;> rw [h4] at h <;> try (cases h; done)
    rename_i z
    simp only [Mp.R.bind_ok] at h
    cases h5 : Mp.cmpI p y z <;> rw [h5] at h <;> cases h
    exact ⟨_, rfl⟩
theorem t_cmpR {op : CmpOp} {o : Mp.Cp} {r : R2} (ho : OpR X (compareOp op) r) (ha : PE X a (tE C G sf W (.rd 9) a')) (hb : PE X b (tE C G sf W (.rd 9) b')) (hm : behindInMarks op b = false)
    (hr : ∀ σ H (Q : VK), tE C G sf W (.rd 9) (.cmp o a' b') σ H Q → tOp r (tE C G sf W (.rd 9) a') (tE C G sf W (.rd 9) b') σ H Q) : PT X (.Compare a [op] [b] pos) (tT C G sf W (.cmp o a' b')) :=
  PT.imp (pt_cmpR ho ha hb hm) fun σ H Q q => hr σ H _ (tT_test isB_cmp q)
theorem t_chn {op op' : CmpOp} {o p : Mp.Cp} {r r' : R2} (ho : OpR X (compareOp op) r) (ho' : OpR X (compareOp op') r') (ha : PE X a (tE C G sf W (.rd 9) a')) (hb : PE X b (tE C G sf W (.rd 9) b')) (hc : PE X c (tE C G sf W (.rd 9) c')) (hm : lastMarks [op, op'] [b, c] = false)
    (hr : ∀ σ H (Q : VK), tE C G sf W (.rd 9) (.chn o p a' b' c') σ H Q → tChain r r' (tE C G sf W (.rd 9) a') (tE C G sf W (.rd 9) b') (tE C G sf W (.rd 9) c') σ H Q) :
    PT X (.Compare a [op, op'] [b, c] pos) (tT C G sf W (.chn o p a' b' c')) :=
  PT.imp (pt_chain ho ho' ha hb hc hm) fun σ H Q q => hr σ H _ (tT_test isB_chn q)
theorem t_isn (ha : PE X a (tE C G sf W (.rd 9) a')) {j : Nat} {p : Pos} : PT X (.Compare a [.Is] [.Constant .none j p] pos) (tT C G sf W (.isn a' false)) :=
  PT.imp (pt_cmp (pc_isN ha)) fun σ H Q q => by
    have := r_isn (tT_test isB_isn q)
    simpa [tB, tIsN] using this
theorem t_nisn (ha : PE X a (tE C G sf W (.rd 9) a')) {j : Nat} {p : Pos} : PT X (.Compare a [.IsNot] [.Constant .none j p] pos) (tT C G sf W (.isn a' true)) :=
  PT.imp (pt_cmp (pc_notN ha)) fun σ H Q q => by
    have := r_isn (tT_test isB_isn q)
    simpa [tB, tNotN] using this
theorem e_isn (ha : PE X a (tE C G sf W (.rd 9) a')) {j : Nat} {p : Pos} : PE X (.Compare a [.Is] [.Constant .none j p] pos) (tE C G sf W kd (.isn a' false)) :=
  PE.imp (pe_cmp (pc_isN ha)) fun σ H Q q => by
    have := r_isn q
    simpa [tIsN] using this
theorem e_nisn (ha : PE X a (tE C G sf W (.rd 9) a')) {j : Nat} {p : Pos} : PE X (.Compare a [.IsNot] [.Constant .none j p] pos) (tE C G sf W kd (.isn a' true)) :=
  PE.imp (pe_cmp (pc_notN ha)) fun σ H Q q => by
    have := r_isn q
    simpa [tNotN] using this
/-- any other test -/
theorem t_plain (hK : X.K = C.K) {k : Nat} {e : Expr} {e' : Mp.E} (he : ∀ whole, isTrue e X.env whole = (do let v ← whole; standAt e.pos; holding [v] (truthy v))) (h : PE X e (tE C G sf W (.rd k) e')) : PT X e (tT C G sf W e') :=
  PT.imp (pt_truth h he) fun σ H Q ⟨F0, Fz, Hr, env, As, b, w⟩ => ⟨F0, Fz, Hr, env, As, b, (Wg.bind w).imp fun d e1 q v H' Fz' A e rv n f => by
    cases h : Mp.truD d with
    | bad => rw [h] at q; exact (show False from q).elim
    | exc x => exact absurd h truD_exc
    | ok r =>
      rw [h] at q
      have q : ∀ H' Fz', Ext Fz H Fz' H' → Q r H' := q
      exact ⟨r, tru_of hK h rv.1, q H' Fz' e⟩⟩
theorem t_not (h : PT X a (tT C G sf W a')) : PT X (.UnaryOp .Not a pos) (tT C G sf W (.nt a')) :=
  PT.imp (pt_not h) fun σ H Q ⟨F0, Fz, Hr, env, As, b, w⟩ => ⟨F0, Fz, Hr, env, As, b, by
    simp only [Mp.ev] at w
    cases h1 : Mp.ev a' sf env with
    | bad => rw [h1] at w; exact (show False from w).elim
    | exc x => rw [h1] at w; exact w
    | ok d =>
      rw [h1] at w
      simp only [Mp.R.bind_ok] at w ⊢
      cases h2 : Mp.truD d with
      | bad => rw [h2] at w; exact (show False from w).elim
      | exc x => exact absurd h2 truD_exc
      | ok r => rw [h2] at w; exact w⟩
theorem tT_one {e : Mp.E} {an : Bool} {Q : Bool → Hp → Prop} (q : tT C G sf W (.bop an [e]) σ H Q) : tT C G sf W e σ H Q := by
  obtain ⟨F0, Fz, Hr, env, As, b, w⟩ := q
  exact ⟨F0, Fz, Hr, env, As, b, by simpa only [Mp.ev, Mp.evb] using w⟩
theorem t_bop {op : BoolOp} : ∀ {es : List Expr} {es' : List Mp.E}, es ≠ [] → Paired (fun e e' => PT X e (tT C G sf W e')) es es' →
    PW X (.BoolOp op es pos) (tT C G sf W (.bop (match op with | .And => true | .Or => false) es'))
  | [], _, h, _ => absurd rfl h
  | [e], _, _, h => by
    cases h with
    | cons h1 h2 =>
      cases h2
      cases op with
      | And => exact ⟨fun wh pins s σ H Q I q => (pw_and1 h1).run wh pins s σ H Q I (tT_one q)⟩
      | Or => exact ⟨fun wh pins s σ H Q I q => (pw_or1 h1).run wh pins s σ H Q I (tT_one q)⟩
  | e :: e2 :: es, _, _, h => by
    cases h with
    | cons h1 h2 =>
      have ih := t_bop (op := op) (List.cons_ne_nil e2 es) h2
      cases h2 with
      | @cons _ x2 _ xs h3 h4 =>
        cases op with
        | And =>
          refine ⟨fun wh pins s σ H Q I q => (pw_and h1 ih).run wh pins s σ H Q I ?_⟩
          obtain ⟨F0, Fz, Hr, env, As, b, w⟩ := q
          refine ⟨F0, Fz, Hr, env, As, b, ?_⟩
          simp only [Mp.ev, Mp.evb] at w
          rename_i x1
          cases h1 : Mp.ev x1 sf env with
          | bad => rw [h1] at w; exact (show False from w).elim
          | exc x => rw [h1] at w; exact w
          | ok d =>
            rw [h1] at w
            simp only [Mp.R.bind_ok] at w ⊢
            cases h2 : Mp.truD d with
            | bad => rw [h2] at w; exact (show False from w).elim
            | exc x => exact absurd h2 truD_exc
            | ok r =>
              rw [h2] at w
              simp only [Mp.R.bind_ok] at w
              intro H' Fz' e
              cases r with
              | false =>
                simp only [Bool.false_eq_true, if_false, Mp.R.bind_ok, h2] at w
                exact iteF (w H' Fz' e)
              | true =>
                simp only [if_true] at w
                refine iteT ⟨F0, Fz', Hr, env, As, b.grow e, ?_⟩
                simp only [Mp.ev]
                revert w
                cases (Mp.evb true (x2 :: xs) sf env).bind Mp.truD with
                | ok r => exact fun w H2 Fz2 e2 => w H2 Fz2 (e.trans e2)
                | exc x => exact fun w => XW.mono e w
                | bad => exact fun w => w
        | Or =>
          refine ⟨fun wh pins s σ H Q I q => (pw_or h1 ih).run wh pins s σ H Q I ?_⟩
          obtain ⟨F0, Fz, Hr, env, As, b, w⟩ := q
          refine ⟨F0, Fz, Hr, env, As, b, ?_⟩
          simp only [Mp.ev, Mp.evb] at w
          rename_i x1
          cases h1 : Mp.ev x1 sf env with
          | bad => rw [h1] at w; exact (show False from w).elim
          | exc x => rw [h1] at w; exact w
          | ok d =>
            rw [h1] at w
            simp only [Mp.R.bind_ok] at w ⊢
            cases h2 : Mp.truD d with
            | bad => rw [h2] at w; exact (show False from w).elim
            | exc x => exact absurd h2 truD_exc
            | ok r =>
              rw [h2] at w
              simp only [Mp.R.bind_ok] at w
              intro H' Fz' e
              cases r with
              | true =>
                simp only [Bool.true_eq_false, if_false, Mp.R.bind_ok, h2] at w
                exact iteT (w H' Fz' e)
              | false =>
                simp only [if_true] at w
                refine iteF ⟨F0, Fz', Hr, env, As, b.grow e, ?_⟩
                simp only [Mp.ev]
                revert w
                cases (Mp.evb false (x2 :: xs) sf env).bind Mp.truD with
                | ok r => exact fun w H2 Fz2 e2 => w H2 Fz2 (e.trans e2)
                | exc x => exact fun w => XW.mono e w
                | bad => exact fun w => w
/-- a if c else b -/
theorem e_ife (hc : PT X c (tT C G sf W c')) (ha : PE X a (tE C G sf W kd a')) (hb : PE X b (tE C G sf W kd b')) : PE X (.IfExp c a b pos) (tE C G sf W kd (.ife c' a' b')) := by
  refine PE.imp (pe_ifExp hc ha hb) fun σ H Q ⟨F0, Fz, Hr, env, As, b, w⟩ => ⟨F0, Fz, Hr, env, As, b, ?_⟩
  have w : WF C _ kd Fz H ((Mp.ev c' sf env).bind fun x => (Mp.truD x).bind fun r => if r = true then Mp.ev a' sf env else Mp.ev b' sf env) Q := w
  cases h1 : Mp.ev c' sf env with
  | bad => rw [h1] at w; exact (show False from w).elim
  | exc x => rw [h1] at w; exact w
  | ok d =>
    rw [h1] at w
    simp only [Mp.R.bind_ok] at w ⊢
    cases h2 : Mp.truD d with
    | bad => rw [h2] at w; exact (show False from w).elim
    | exc x => exact absurd h2 truD_exc
    | ok r =>
      rw [h2] at w
      simp only [Mp.R.bind_ok] at w
      intro H' Fz' e
      cases r with
      | true => rw [if_pos rfl] at w; exact iteT ⟨F0, Fz', Hr, env, As, b.grow e, WF.mono e w⟩
      | false => rw [if_neg Bool.false_ne_true] at w; exact iteF ⟨F0, Fz', Hr, env, As, b.grow e, WF.mono e w⟩

/-! ### subscripts -/
theorem scrSq {K : PySem.W.Frag} {p : Addr} {us : List V} (h : SqL K (frzOf H) p us) : SqL K H p us := by
  rcases h with (q | ⟨o, q⟩) | q
  · obtain ⟨_, b, u, z⟩ := frzOf_some q
    cases z
  · exact .inl (.inr ⟨o, (frzOf_some q).1⟩)
  · exact .inr q
def rDG : R2 := fun x y H Q => ∃ p v, x = .ref p ∧ DGt H p y (some v) ∧ Q v H
theorem ix_dict (hu : X.A.units + 1 < cLine) : IxR X rDG := by
  intro value slice pins s σ H x y v u Q I rx ry h hs
  obtain ⟨p, z, rfl, g, q⟩ := h
  obtain rfl : v = Value.ref p := rx
  exact tail_any (DGt.ty I g) PySem.F.slot_dict_getitem.lookup (gt_item hu I g ry fun w' s' I' rw' => ⟨z, H, I', rw', q⟩) hs
theorem atL_at {xs : List V} {i : Int} : atI xs i = Mp.atL xs i := rfl
theorem atL_pair {P : Mp.D → V → Prop} {ds : List Mp.D} {us : List V} {i : Int} {d : Mp.D} (l : Paired P ds us) (h : Mp.atL ds i = some d) : ∃ u, atI us i = some u ∧ P d u := by
  have hl := plen l
  unfold Mp.atL at h
  unfold atI
  have e : ixN us.length i = Mp.ixL ds.length i := by rw [hl]; rfl
  rw [e]
  cases q : Mp.ixL ds.length i with
  | none => rw [q] at h; cases h
  | some j =>
    rw [q] at h
    replace h : ds[j]? = some d := h
    show ∃ u, us[j]? = some u ∧ P d u
    clear e q hl
    revert h
    induction l generalizing j with
    | nil => intro h; simp at h
    | cons h1 h2 ih =>
      intro h
      cases j with
      | zero => simp at h; subst h; exact ⟨_, by simp, h1⟩
      | succ j => simpa using ih (j := j) (by simpa using h)
/-- a value that came out of a container, n levels below -/
theorem fin_rd {kx : Nat} {d : Mp.D} {v : V} (hf : Fin C Q kd Fz H d) (trk : ∀ a, Fz a → ∃ o, H a = some o) (hk : (match kd with | .rd k => decide (kx ≤ k) | .ow 0 => decide (kx = 0) | _ => false) = true) (hv : Rd C Fz H kx d v) : Q v H := by
  refine hf v H Fz [] (.refl trk) ?_ List.nodup_nil (fun a ha => by cases ha)
  cases kd with
  | rd k => exact ⟨Rd.le _ _ d v (of_decide_eq_true hk) hv, rfl⟩
  | ow k =>
    cases k with
    | zero =>
      obtain rfl : kx = 0 := of_decide_eq_true hk
      exact ⟨hv, rfl⟩
    | succ k => cases hk
theorem scr_at {ns : List Int} {i : Int} {j : Int} (h : Mp.atL ns i = some j) : atI (ns.map V.int) i = some (V.int j) := by
  unfold Mp.atL at h
  unfold atI
  have e : ixN (ns.map V.int).length i = Mp.ixL ns.length i := by rw [List.length_map]; rfl
  rw [e]
  cases q : Mp.ixL ns.length i with
  | none => rw [q] at h; cases h
  | some k =>
    rw [q] at h
    have h : ns[k]? = some j := h
    show (ns.map V.int)[k]? = some (V.int j)
    rw [List.getElem?_map, h]
    rfl
theorem e_ix (hK : X.K = C.K) (hu : X.A.units + 1 < cLine) {ka : Nat} (hk : (match kd with | .rd k => ka = k + 1 | .ow 0 => ka = 1 | _ => False)) (hs : PlainIx b) (ha : PE X a (tE C G sf W (.rd ka) a')) (hb : PE X b (tE C G sf W (.rd 9) b')) :
    PE X (.Subscript a b pos) (tE C G sf W kd (.ix a' b')) := by
  refine PE.imp (pe_ix ((ix_list.or ix_tup).or (ix_dict hu)) ha hb hs) fun σ H Q ⟨F0, Fz, Hr, env, As, b, w⟩ => ?_
  refine go b w fun x v H1 Fz1 A1 ex e1 b1 r1 n1 f1 w1 => go b1 w1 fun y u H2 Fz2 A2 ey e2 b2 r2 n2 f2 w2 => ?_
  replace r1 := Rs.grow e2 r1
  have t2 := b2.ext.trk
  have k0 : ∀ {d : Mp.D} {v : V}, Fin C Q kd Fz2 H2 d → Val C Fz2 H2 d v → Q v H2 := fun {d v} hf hv => by
    refine fin_rd (kx := 0) hf t2 ?_ hv
    cases kd with
    | rd k => exact decide_eq_true (Nat.zero_le _)
    | ow k => cases k with
      | zero => rfl
      | succ k => exact hk.elim
  cases x with
  | lst xs =>
    cases y <;> try exact (show False from w2).elim
    rename_i i
    obtain ⟨p, us, rfl, hp, l⟩ := Rd.lst r1.1
    obtain rfl := Rd.int r2.1
    have w2 : WF C _ kd Fz2 H2 (Mp.R.of (Mp.atL xs i)) Q := w2
    cases q : Mp.atL xs i with
    | none => rw [q] at w2; exact (show False from w2).elim
    | some d =>
      rw [q] at w2
      obtain ⟨u, e, hv⟩ := atL_pair l q
      refine .inl (.inl ⟨p, us, i, u, rfl, rfl, SqL.of hp, e, ?_⟩)
      refine fin_rd (kx := ka - 1) w2 t2 ?_ hv
      cases kd with
      | rd k => have hk : ka = k + 1 := hk; exact decide_eq_true (by omega)
      | ow k => cases k with
        | zero => have hk : ka = 1 := hk; exact decide_eq_true (by omega)
        | succ k => exact hk.elim
  | tup xs =>
    cases y <;> try exact (show False from w2).elim
    rename_i i
    obtain ⟨p, us, rfl, hp, l⟩ := Rd.tup r1.1
    obtain rfl := Rd.int r2.1
    have w2 : WF C _ kd Fz2 H2 (Mp.R.of (Mp.atL xs i)) Q := w2
    cases q : Mp.atL xs i with
    | none => rw [q] at w2; exact (show False from w2).elim
    | some d =>
      rw [q] at w2
      obtain ⟨u, e, hv⟩ := atL_pair (pvals l) q
      exact .inl (.inr ⟨p, us, i, u, rfl, rfl, by rw [hK]; exact hp.sq, e, k0 w2 hv⟩)
  | scr ns =>
    cases y <;> try exact (show False from w2).elim
    rename_i i
    obtain ⟨p, rfl, hp⟩ := Rd.scr r1.1
    obtain rfl := Rd.int r2.1
    have w2 : WF C _ kd Fz2 H2 (Mp.R.of ((Mp.atL ns i).map .int)) Q := w2
    cases q : Mp.atL ns i with
    | none => rw [q] at w2; exact (show False from w2).elim
    | some j =>
      rw [q] at w2
      exact .inl (.inl ⟨p, _, i, .int j, rfl, rfl, by rw [hK]; exact scrSq hp, scr_at q, fin_int w2 t2⟩)
  | dct tk ks vs =>
    have w2 : WF C _ kd Fz2 H2 (if Mp.keyD tk y = true then Mp.R.of (Mp.dget ks vs y) else .bad) Q := w2
    split at w2
    · rename_i hc
      obtain ⟨p, us, rfl, hd, l⟩ := Rd.dct r1.1
      obtain ⟨o, g, q⟩ := dget_rd hd l hc r2.1
      cases z : Mp.dget ks vs y with
      | none => rw [z] at w2; exact (show False from w2).elim
      | some d =>
        rw [z] at q w2
        obtain ⟨u, rfl, hv⟩ := q
        exact .inr ⟨p, u, rfl, g, k0 w2 hv⟩
    · exact (show False from w2).elim
  | _ => exact (show False from by cases y <;> exact w2).elim
/-! ### slices -/
/-- a slice's part -/
def tP (C : Cfg) (G : List Md) (sf : Mp.Sf) (W : WX) (lo : List Mp.E) : TO := fun σ H Q =>
  ∃ F0 Fz Hr env As, BI C G F0 Fz Hr env σ H As ∧ Wg C (fun cls dx H' => W cls dx σ H') Fz H ((Mp.evs lo sf env).bind Mp.toP) fun o => ∀ H' Fz', Ext Fz H Fz' H' → Q o H'
theorem p_none : PO X none (tP C G sf W []) := ⟨fun pins s σ H Q I ⟨F0, Fz, Hr, env, As, b, w⟩ => po_none.run pins s σ H Q I (by
  have w : Wg C _ Fz H (.ok none) _ := w
  exact w H Fz (.refl b.ext.trk))⟩
theorem toP_exc {ds : List Mp.D} {x : Mp.D} : Mp.toP ds ≠ .exc x := by
  unfold Mp.toP
  split <;> simp
theorem p_some (ha : PE X a (tE C G sf W (.rd 9) a')) : PO X (some a) (tP C G sf W [a']) := ⟨fun pins s σ H Q I ⟨F0, Fz, Hr, env, As, b, w⟩ => (po_some ha).run pins s σ H Q I (by
  refine ⟨F0, Fz, Hr, env, As, b, ?_⟩
  simp only [Mp.evs] at w
  cases h : Mp.ev a' sf env with
  | bad => rw [h] at w; exact (show False from w).elim
  | exc x => rw [h] at w; exact w
  | ok d =>
    rw [h] at w
    intro v H' Fz' A e rv _ _
    cases d <;> try exact (show False from w).elim
    rename_i i
    have w : ∀ H' Fz', Ext Fz H Fz' H' → Q (some i) H' := w
    exact ⟨i, Rd.int rv.1, w H' Fz' e⟩)⟩
theorem sx_ix (n d : Nat) (o : Option Int) : HT.sIx n d o = Mp.sx n d o := rfl
theorem pcut {P : Mp.D → V → Prop} {ds : List Mp.D} {us : List V} (l : Paired P ds us) (i j : Nat) : Paired P (Mp.cutL ds i j) ((us.drop i).take (j - i)) := by
  unfold Mp.cutL
  have hd : ∀ (i : Nat) {ds : List Mp.D} {us : List V}, Paired P ds us → Paired P (ds.drop i) (us.drop i) := fun i => by
    induction i with
    | zero => intro ds us l; simpa using l
    | succ i ih =>
      intro ds us l
      cases l with
      | nil => simpa using Paired.nil
      | cons h1 h2 => simpa using ih h2
  have ht : ∀ (i : Nat) {ds : List Mp.D} {us : List V}, Paired P ds us → Paired P (ds.take i) (us.take i) := fun i => by
    induction i with
    | zero => intro ds us l; simpa using Paired.nil
    | succ i ih =>
      intro ds us l
      cases l with
      | nil => simpa using Paired.nil
      | cons h1 h2 => simpa using Paired.cons h1 (ih h2)
  exact ht _ (hd _ l)
theorem e_sl (hK : X.K = C.K) (hk : kd1 kd = true) {lo hi : Option Expr} {lo' hi' : List Mp.E} {p2 : Pos} (ha : PE X a (tE C G sf W (.rd 1) a')) (hl : PO X lo (tP C G sf W lo')) (hh : PO X hi (tP C G sf W hi')) :
    PE X (.Subscript a (.Slice lo hi none p2) pos) (tE C G sf W kd (.sl a' lo' hi')) := by
  refine PE.imp (pe_slice (sl_list.or sl_tupF) ha hl hh) fun σ H Q ⟨F0, Fz, Hr, env, As, b, w⟩ => ?_
  refine go b w fun x v H1 Fz1 A1 ex e1 b1 r1 n1 f1 w1 => ⟨F0, Fz1, Hr, env, As, b1, ?_⟩
  have bb : ∀ {α β γ : Type} (r : Mp.R α) (f : α → Mp.R β) (g : β → Mp.R γ), (r.bind fun x => (f x).bind g) = (r.bind f).bind g := fun r f g => by cases r <;> rfl
  simp only [bb] at w1
  refine (Wg.bind w1).imp fun o1 h1 w2 H2 Fz2 e2 => ⟨F0, Fz2, Hr, env, As, b1.grow e2, ?_⟩
  replace w2 := WF.mono e2 (show WF C _ kd Fz1 H1 _ Q from w2)
  refine (Wg.bind w2).imp fun o2 h2 w3 H3 Fz3 e3 => ?_
  replace w3 := WF.mono e3 (show WF C _ kd Fz2 H2 _ Q from w3)
  replace r1 := Rs.grow (e2.trans e3) r1
  have t3 := e3.trk
  cases x with
  | lst ds =>
    obtain ⟨p, us, rfl, hp, l⟩ := Rd.lst r1.1
    have hl := plen l
    refine .inl ⟨p, us, rfl, SqL.of hp, fun q hq => ?_⟩
    have e : cutV us o1 o2 = (us.drop (Mp.sx ds.length 0 o1)).take (Mp.sx ds.length ds.length o2 - Mp.sx ds.length 0 o1) := by unfold cutV; rw [hl]; rfl
    rw [e]
    exact fin_lst w3 t3 hk hq (pcut l _ _)
  | tup ds =>
    obtain ⟨p, us, rfl, hp, l⟩ := Rd.tup r1.1
    have hl := l.length
    have e : cutV us o1 o2 = (us.drop (Mp.sx ds.length 0 o1)).take (Mp.sx ds.length ds.length o2 - Mp.sx ds.length 0 o1) := by unfold cutV; rw [hl]; rfl
    refine .inr ⟨p, us, rfl, by rw [hK]; exact hp.sq, fun hw => ?_, fun _ => ?_⟩
    · rw [sx_ix, sx_ix, ← hl] at hw
      have w3 : Fin C Q kd Fz3 H3 (.tup (Mp.cutL ds (Mp.sx ds.length 0 o1) (Mp.sx ds.length ds.length o2))) := w3
      rw [hw.1, hw.2] at w3
      have : Mp.cutL ds 0 ds.length = ds := by simp [Mp.cutL]
      rw [this] at w3
      exact fin_same (d := .un) (v := .non) w3 t3 hp (pvals l)
    · rw [e]
      exact fin_tupN w3 t3 (pcut (pvals l) _ _)
  | _ => exact (show False from w3).elim
/-! ### attributes -/
/-- what must be seen of a class -/
structure ClsF (C : Cfg) (c : Nat) : Prop where
  cls : Cls C.K (C.cad c)
  no : ∀ f ∈ C.FN, NoAttr C.K (C.cad c) f
theorem noCall0_base {f : Str} (h : noCall0 a = true) : attributeBase a f X.env (eval a X.env) = eval a X.env := by
  unfold attributeBase
  split
  · cases h
  · rfl
theorem e_att (hK : X.K = C.K) (hk : kd0 kd = true) {f : Str} {i : Nat} (hf : C.FN[i]? = some f) (hc : ∀ c, c < C.nc → ClsF C c) (ha : PE X a (tE C G sf W (.rd 9) a')) (hb : noCall0 a = true) : PE X (.Attribute a f pos) (tE C G sf W kd (.att a' i)) := by
  refine PE.imp (pe_fld ha (noCall0_base hb)) fun σ H Q ⟨F0, Fz, Hr, env, As, b, w⟩ => ?_
  refine go b w fun x v H1 Fz1 A1 ex e1 b1 r1 n1 f1 w1 => ?_
  cases x with
  | ins c fs vs =>
    obtain ⟨p, dx, fs', us, rfl, hp, hF, l⟩ := Rd.ins r1.1
    have w1 : WF C _ kd Fz1 H1 (Mp.R.of (Mp.fget fs vs i)) Q := w1
    have lk := hF.at_ i f hf
    have key : ∀ {fs : List Nat} {vs : List Mp.D} {us : List V}, Paired (Val C Fz1 H1) vs us → ∀ d, Mp.fget fs vs i = some d → ∃ u, Mp.fget fs us i = some u ∧ Val C Fz1 H1 d u := by
      intro fs
      induction fs with
      | nil => intro vs us l d h; cases l <;> cases h
      | cons f0 fs ih =>
        intro vs us l d h
        cases l with
        | nil => cases h
        | cons h1 h2 =>
          simp only [Mp.fget] at h ⊢
          by_cases e : f0 = i
          · rw [if_pos e] at h ⊢
            cases h
            exact ⟨_, rfl, h1⟩
          · rw [if_neg e] at h ⊢
            exact ih h2 d h
    cases q : Mp.fget fs vs i with
    | none => rw [q] at w1; exact (show False from w1).elim
    | some d =>
      rw [q] at w1
      obtain ⟨u, e, hv⟩ := key (pvals l) d q
      exact ⟨p, C.cad c, dx, fs', u, rfl, hp, by rw [hK]; exact (hc c hF.cl).cls, by rw [hK]; exact (hc c hF.cl).no f (List.mem_of_getElem? hf), by rw [lk, e], fin_val w1 b1.ext.trk hk hv⟩
  | _ => exact (show False from w1).elim
end
end MpS

/-! MpE6: argument lists, displays, builtins. -/
namespace MpS
open PySem PySem.Spec PyProof.Rows L2

/-- no *e -/
def NoSt (e : Expr) : Prop := ∀ es env, starEach (e :: es) env = (false, eval e env) :: starEach es env
theorem nost_any {es : List Expr} {pos : Pos} {env : Env} (h : ∀ e ∈ es, NoSt e) : (backTo pos (starEach es env)).any (·.1) = false := by
  induction es with
  | nil => rfl
  | cons e es ih =>
    rw [h e List.mem_cons_self es env]
    have := ih fun x hx => h x (List.mem_cons_of_mem _ hx)
    simpa [backTo] using this

section
variable {C : Cfg} {G : List Md} {F0 Fz Fz' Fz1 : Addr → Prop} {Hr H H' H1 : Hp} {env : List Mp.D} {σ : L2.St} {As : Nat → List Addr} {E : XK} {kd ka : Kd} {Q : VK} {sf : Mp.Sf} {W : WX}
variable {X : Cx} {a b c : Expr} {a' b' c' : Mp.E} {pos : Pos} {es : List Expr} {es' : List Mp.E}

/-- arguments: each with its kind -/
inductive Args (X : Cx) (C : Cfg) (G : List Md) (sf : Mp.Sf) (W : WX) : List Kd → List Expr → List Mp.E → Prop where
  | nil : Args X C G sf W [] [] []
  | cons {k : Kd} {ks : List Kd} {e : Expr} {es : List Expr} {e' : Mp.E} {es' : List Mp.E} (n : NoSt e) (h : PE X e (tE C G sf W k e')) (t : Args X C G sf W ks es es') : Args X C G sf W (k :: ks) (e :: es) (e' :: es')
theorem Args.nost {ks : List Kd} (h : Args X C G sf W ks es es') : ∀ e ∈ es, NoSt e := by
  induction h with
  | nil => intro e he; cases he
  | cons n _ _ ih =>
    intro e he
    rcases List.mem_cons.mp he with rfl | he
    · exact n
    · exact ih e he
theorem Args.len {ks : List Kd} (h : Args X C G sf W ks es es') : ks.length = es.length ∧ es'.length = es.length := by
  induction h with
  | nil => exact ⟨rfl, rfl⟩
  | cons _ _ _ ih => exact ⟨by simp [ih.1], by simp [ih.2]⟩
theorem RsL.nil_ext (trk : ∀ a, Fz a → ∃ o, H a = some o) {Q : List V → Hp → Prop} (h : FinL C Q [] Fz H []) : Q [] H :=
  h [] H Fz [] (.refl trk) ⟨rfl, rfl, rfl⟩ List.nodup_nil (fun a ha => by cases ha)
theorem nodup_app {A B : List Addr} (h1 : A.Nodup) (h2 : B.Nodup) (h : ∀ a ∈ A, a ∉ B) : (A ++ B).Nodup :=
  List.nodup_append.mpr ⟨h1, h2, fun a ha b hb e => h a ha (e ▸ hb)⟩
theorem a_of {ks : List Kd} (h : Args X C G sf W ks es es') : PA X es (tA C G sf W ks es') := by
  induction h with
  | nil => exact PA.imp pa_nil fun σ H Q ⟨F0, Fz, Hr, env, As, b, w⟩ => RsL.nil_ext b.ext.trk (show FinL C Q [] Fz H [] from w)
  | @cons k ks e es e' es' n h t ih =>
    refine PA.imp (pa_cons h ih (n es X.env)) fun σ H Q ⟨F0, Fz, Hr, env, As, b, w⟩ => ⟨F0, Fz, Hr, env, As, b, ?_⟩
    have w : Wg C _ Fz H ((Mp.ev e' sf env).bind fun d => (Mp.evs es' sf env).bind fun ds => .ok (d :: ds)) (FinL C Q (k :: ks) Fz H) := w
    refine (Wg.bind w).imp fun x ex q v H1 Fz1 A e1 r1 n1 f1 => ⟨F0, Fz1, Hr, env, As, b.grow e1, ?_⟩
    have q1 := WgL.mono e1 q
    refine (Wg.bind q1).imp fun xs exs q2 vs H2 Fz2 B e2 r2 n2 f2 => ?_
    have q2 : FinL C Q (k :: ks) Fz1 H1 (x :: xs) := q2
    have m1 := Rs.mut r1
    have dj : ∀ a ∈ A, a ∉ B := fun a ha hb => by
      obtain ⟨o, ho⟩ := m1 a ha
      rw [(f2 a hb).1] at ho
      cases ho
    have q3 : FinL C Q (k :: ks) Fz H (x :: xs) := by
      rw [exs] at q
      exact q
    refine q3 (v :: vs) H2 Fz2 (A ++ B) (e1.trans e2) ⟨x, xs, v, vs, A, B, rfl, rfl, rfl, Rs.grow e2 r1, r2⟩ (nodup_app n1 n2 dj) fun a ha => ?_
    rcases List.mem_append.mp ha with ha | ha
    · refine ⟨(f1 a ha).1, fun z => ?_⟩
      rcases e2.new a z with z | z
      · exact (f1 a ha).2 z
      · obtain ⟨o, ho⟩ := m1 a ha
        rw [z] at ho; cases ho
    · exact ⟨e1.same.free (f2 a ha).1, (f2 a ha).2⟩

/-- frozen arguments -/
theorem RsL.vals : ∀ {n : Nat} {ds : List Mp.D} {vs : List V} {A : List Addr}, RsL C Fz H (List.replicate n (.rd 0)) ds vs A → Paired (Val C Fz H) ds vs ∧ A = [] ∧ ds.length = n
  | 0, _, _, _, h => by obtain ⟨rfl, rfl, rfl⟩ := h; exact ⟨.nil, rfl, rfl⟩
  | n + 1, _, _, _, h => by
    obtain ⟨d, ds', v, vs', B, B', rfl, rfl, rfl, h1, h2⟩ := h
    obtain ⟨p, rfl, l⟩ := RsL.vals h2
    obtain ⟨h1, rfl⟩ := h1
    exact ⟨.cons h1 p, rfl, by simp [l]⟩
theorem RsL.owl {k : Nat} : ∀ {n : Nat} {ds : List Mp.D} {vs : List V} {A : List Addr}, RsL C Fz H (List.replicate n (.ow k)) ds vs A → OwL (Ow C Fz H k) ds vs A ∧ ds.length = n
  | 0, _, _, _, h => by obtain ⟨rfl, rfl, rfl⟩ := h; exact ⟨⟨rfl, rfl⟩, rfl⟩
  | n + 1, _, _, _, h => by
    obtain ⟨d, ds', v, vs', B, B', rfl, rfl, rfl, h1, h2⟩ := h
    obtain ⟨p, l⟩ := RsL.owl h2
    exact ⟨⟨v, vs', B, B', rfl, rfl, h1, p⟩, by simp [l]⟩
theorem e_tup {x1} (hl : es.length ≤ 1000) (h : Args X C G sf W (List.replicate es'.length (.rd 0)) es es') : PE X (.Tuple es x1 pos) (tE C G sf W kd (.tupE es')) := by
  refine PE.imp (pe_tupF (a_of h)) fun σ H Q ⟨F0, Fz, Hr, env, As, b, w⟩ => ?_
  refine goL b w fun x v H1 Fz1 A1 ex e1 b1 r1 n1 f1 w1 => ?_
  obtain ⟨p, rfl, l⟩ := r1.vals
  have := plen p
  have := h.len.2
  refine ⟨by rw [sizeLine_eq]; omega, fin_tupN w1 b1.ext.trk p⟩
theorem e_lst0 (hl : es.length ≤ 1000) (hk : kd1 kd = true) (h : Args X C G sf W (List.replicate es'.length (.rd 0)) es es') : PE X (.List es pos) (tE C G sf W kd (.lstE es')) := by
  refine PE.imp (pe_lst (a_of h)) fun σ H Q ⟨F0, Fz, Hr, env, As, b, w⟩ => ?_
  refine goL b w fun x v H1 Fz1 A1 ex e1 b1 r1 n1 f1 w1 => ?_
  obtain ⟨p, rfl, l⟩ := r1.vals
  have := plen p
  have := h.len.2
  refine ⟨by rw [sizeLine_eq]; omega, fun q hq => fin_lst w1 b1.ext.trk hk hq p⟩
/-- a new object at p, what is below owned: at p -/
theorem fin_own {k : Nat} {d : Mp.D} {p : Addr} {o : HO} {A : List Addr} (hf : Fin C Q (.ow (k + 1)) Fz H d) (e1 : Ext Fz H Fz1 H1) (hp : H1 p = none) (nd : A.Nodup) (fr : ∀ a ∈ A, H a = none ∧ ¬ Fz1 a) (mu : ∀ a ∈ A, ∃ o, H1 a = some o)
    (ho : Ow C Fz1 (upd H1 p o) (k + 1) d (.ref p) (p :: A)) : Q (.ref p) (upd H1 p o) := by
  have hpA : p ∉ A := fun z => by obtain ⟨o, ho⟩ := mu p z; rw [hp] at ho; cases ho
  have e2 : Ext Fz1 H1 Fz1 (upd H1 p o) := ext_new hp e1.trk
  refine hf _ _ _ (p :: A) (e1.trans e2) ho (List.nodup_cons.mpr ⟨hpA, nd⟩) fun a ha => ?_
  rcases List.mem_cons.mp ha with rfl | ha
  · exact ⟨e1.same.free hp, fun z => by obtain ⟨o, ho⟩ := e1.trk _ z; rw [hp] at ho; cases ho⟩
  · exact fr a ha
theorem e_lstO {k : Nat} (hl : es.length ≤ 1000) (h : Args X C G sf W (List.replicate es'.length (.ow k)) es es') : PE X (.List es pos) (tE C G sf W (.ow (k + 1)) (.lstE es')) := by
  refine PE.imp (pe_lst (a_of h)) fun σ H Q ⟨F0, Fz, Hr, env, As, b, w⟩ => ⟨F0, Fz, Hr, env, As, b, ?_⟩
  have w : WF C _ (.ow (k + 1)) Fz H ((Mp.evs es' sf env).bind fun ds => .ok (.lst ds)) Q := w
  refine (Wg.bind w).imp fun xs ex q vs H1 Fz1 A e1 r1 n1 f1 => ?_
  obtain ⟨p, l⟩ := r1.owl
  have hlen := OwL.length p
  have := h.len.2
  refine ⟨by rw [sizeLine_eq]; omega, fun x hx => ?_⟩
  have mu : ∀ a ∈ A, ∃ o, H1 a = some o := p.all fun d v B hB a ha => let ⟨o, e, _⟩ := Ow.mut k d v B hB a ha; ⟨o, e⟩
  refine fin_own (show Fin C Q (.ow (k + 1)) Fz H (.lst xs) from q) e1 hx n1 f1 mu ?_
  exact ⟨x, vs, A, rfl, upd_same, rfl, p.imp fun d v B _ hB => Ow.keep (fun _ h => h) (.of (ext_new hx e1.trk).same) k d v B (fun a _ o ho => (ext_new hx e1.trk).same a o ho) hB⟩
theorem e_dctT (hk : kd1 kd = true) : PE X (.Dict [] [] pos) (tE C G sf W kd (.dctE true)) :=
  PE.imp pe_dnewT fun σ H Q ⟨F0, Fz, Hr, env, As, b, w⟩ p hp => fin_new (show Fin C Q kd Fz H (.dct true [] []) from w) b.ext.trk hk hp ⟨p, [], rfl, ⟨rfl, [], rfl, upd_same, by simp, List.nodup_nil⟩, rfl, by simp only [ValL]⟩
theorem e_dctK (hk : kd1 kd = true) : PE X (.Dict [] [] pos) (tE C G sf W kd (.dctE false)) :=
  PE.imp pe_dnewK fun σ H Q ⟨F0, Fz, Hr, env, As, b, w⟩ p hp => fin_new (show Fin C Q kd Fz H (.dct false [] []) from w) b.ext.trk hk hp ⟨p, [], rfl, ⟨rfl, [], rfl, upd_same, List.nodup_nil⟩, rfl, by simp only [ValL]⟩

/-! ### builtins -/
theorem ev_blt {b : Mp.Blt} {as : List Mp.E} : Mp.ev (.blt b as) sf env = (Mp.evs as sf env).bind fun ds => Mp.bltD b ds := rfl
theorem RsL.one {k : Kd} {ds : List Mp.D} {vs : List V} {A : List Addr} (h : RsL C Fz H [k] ds vs A) : ∃ d v, ds = [d] ∧ vs = [v] ∧ Rs C k Fz H d v A := by
  obtain ⟨d, ds', v, vs', B, B', rfl, rfl, rfl, h1, rfl, rfl, rfl⟩ := h
  exact ⟨d, v, rfl, rfl, by simpa using h1⟩
theorem RsL.two {k l : Kd} {ds : List Mp.D} {vs : List V} {A : List Addr} (h : RsL C Fz H [k, l] ds vs A) : ∃ d v d2 v2 B B', ds = [d, d2] ∧ vs = [v, v2] ∧ Rs C k Fz H d v B ∧ Rs C l Fz H d2 v2 B' := by
  obtain ⟨d, ds', v, vs', B, B', rfl, rfl, rfl, h1, h2⟩ := h
  obtain ⟨d2, v2, rfl, rfl, h3⟩ := h2.one
  exact ⟨d, v, d2, v2, B, B', rfl, rfl, h1, h3⟩
/-- what a builtin's rule must give -/
def BltR (C : Cfg) (b : Mp.Blt) (kd : Kd) (ks : List Kd) (r : List V → Hp → VK → Prop) : Prop :=
  ∀ (ds : List Mp.D) (vs : List V) (A : List Addr) (Fz : Addr → Prop) (H : Hp) (Q : VK) (E : XK), (∀ a, Fz a → ∃ o, H a = some o) → RsL C Fz H ks ds vs A → WF C E kd Fz H (Mp.bltD b ds) Q → r vs H Q
theorem e_bltB {x : Str} {id : String} {bl : Mp.Blt} {r : List V → Hp → VK → Prop} {e : Expr} {e' : Mp.E} {p : Pos} {ks : List Kd} (hr : CallR X (.builtin id) r) (hg : Gl X x) (hm : X.mg x = none) (hv : bootBuiltins x = some (.builtin id)) (hn : x ≠ "__name__") (hdb : (x == ("__debug__" : Str)) = false)
    (hb : BltR C bl kd ks r) (h : Args X C G sf W ks (e :: es) es') : PE X (.Call (.Name x p) (e :: es) [] pos) (tE C G sf W kd (.blt bl es')) := by
  refine PE.imp (pe_callB hr hg hm hv (a_of h) hn hdb (h.nost e List.mem_cons_self es X.env) (nost_any fun e he => h.nost e (List.mem_cons_of_mem _ he))) fun σ H Q ⟨F0, Fz, Hr, env, As, b, w⟩ => ?_
  rw [ev_blt] at w
  exact goL b w fun x v H1 Fz1 A1 ex e1 b1 r1 n1 f1 w1 => hb x v A1 Fz1 H1 Q _ b1.ext.trk r1 w1
theorem e_bltT {x : Str} {T : String} {bl : Mp.Blt} {r : List V → Hp → VK → Prop} {e : Expr} {e' : Mp.E} {p : Pos} {ks : List Kd} (hr : CallR X (.type T) r) (hg : Gl X x) (hm : X.mg x = none) (hv : bootBuiltins x = some (.type T)) (hn : x ≠ "__name__") (hdb : (x == ("__debug__" : Str)) = false)
    (hb : BltR C bl kd ks r) (h : Args X C G sf W ks (e :: es) es') : PE X (.Call (.Name x p) (e :: es) [] pos) (tE C G sf W kd (.blt bl es')) := by
  refine PE.imp (pe_callTy hr hg hm hv (a_of h) hn hdb (h.nost e List.mem_cons_self es X.env) (nost_any fun e he => h.nost e (List.mem_cons_of_mem _ he))) fun σ H Q ⟨F0, Fz, Hr, env, As, b, w⟩ => ?_
  rw [ev_blt] at w
  exact goL b w fun x v H1 Fz1 A1 ex e1 b1 r1 n1 f1 w1 => hb x v A1 Fz1 H1 Q _ b1.ext.trk r1 w1
theorem b_len {K : PySem.W.Frag} (hK : K = C.K) : BltR C .len kd [.rd 9] (fun xs H Q => ∃ x n, xs = [x] ∧ LenV K x H n ∧ Q (.int n) H) := by
  intro ds vs A Fz H Q E trk h w
  obtain ⟨d, v, rfl, rfl, g⟩ := h.one
  cases d with
  | lst ds =>
    obtain ⟨p, us, rfl, hp, l⟩ := Rd.lst g.1
    exact ⟨_, us.length, rfl, .inl ⟨us, SqL.of hp, rfl⟩, by rw [← plen l]; exact fin_int w trk⟩
  | tup ds =>
    obtain ⟨p, us, rfl, hp, l⟩ := Rd.tup g.1
    exact ⟨_, us.length, rfl, .inr ⟨us, by rw [hK]; exact hp.sq, rfl⟩, by rw [← l.length]; exact fin_int w trk⟩
  | str s =>
    obtain rfl := Rd.str g.1
    have w : WF C E kd Fz H (if s.length ≤ Mp.LIM then .ok (.int s.length) else .bad) Q := w
    split at w
    · rename_i hl
      exact ⟨_, s.length, rfl, ⟨by rw [sz]; simpa [Str.length] using hl, by simp [Str.length]⟩, fin_int w trk⟩
    · exact (show False from w).elim
  | scr ns =>
    obtain ⟨p, rfl, hp⟩ := Rd.scr g.1
    exact ⟨_, (ns.map V.int).length, rfl, .inl ⟨_, by rw [hK]; exact scrSq hp, rfl⟩, by rw [List.length_map]; exact fin_int w trk⟩
  | _ => exact (show False from w).elim
theorem b_int : BltR C .int kd [.rd 9] (fun xs H Q => (∃ i, xs = [.int i] ∧ Q (.int i) H) ∨ ∃ k, xs = [.bl k] ∧ Q (.int (if k then 1 else 0)) H) := by
  intro ds vs A Fz H Q E trk h w
  obtain ⟨d, v, rfl, rfl, g⟩ := h.one
  cases d with
  | int i => obtain rfl := Rd.int g.1; exact .inl ⟨i, rfl, fin_int w trk⟩
  | bl i => obtain rfl := Rd.bl g.1; exact .inr ⟨i, rfl, fin_int w trk⟩
  | _ => exact (show False from w).elim
theorem b_abs : BltR C .abs kd [.rd 9] (fun xs H Q => ∃ i, xs = [.int i] ∧ Q (.int (if i < 0 then -i else i)) H) := by
  intro ds vs A Fz H Q E trk h w
  obtain ⟨d, v, rfl, rfl, g⟩ := h.one
  cases d with
  | int i => obtain rfl := Rd.int g.1; exact ⟨i, rfl, fin_int w trk⟩
  | _ => exact (show False from w).elim
theorem b_list {K : PySem.W.Frag} (hK : K = C.K) (hk : kd1 kd = true) : BltR C .list kd [.rd 1] (fun xs H Q => ∃ p ys, xs = [.ref p] ∧ (SqL K H p ys ∨ SqT K H p ys) ∧ ∀ l, H l = none → Q (.ref l) (upd H l (.lst ys))) := by
  intro ds vs A Fz H Q E trk h w
  obtain ⟨d, v, rfl, rfl, g⟩ := h.one
  cases d with
  | lst ds =>
    obtain ⟨p, us, rfl, hp, l⟩ := Rd.lst g.1
    exact ⟨p, us, rfl, .inl (SqL.of hp), fun q hq => fin_lst w trk hk hq l⟩
  | tup ds =>
    obtain ⟨p, us, rfl, hp, l⟩ := Rd.tup g.1
    exact ⟨p, us, rfl, .inr (by rw [hK]; exact hp.sq), fun q hq => fin_lst w trk hk hq (pvals l)⟩
  | _ => exact (show False from w).elim
theorem b_tuple {K : PySem.W.Frag} (hK : K = C.K) : BltR C .tuple kd [.rd 1] (rTupF K) := by
  intro ds vs A Fz H Q E trk h w
  obtain ⟨d, v, rfl, rfl, g⟩ := h.one
  cases d with
  | lst ds =>
    obtain ⟨p, us, rfl, hp, l⟩ := Rd.lst g.1
    exact ⟨p, us, rfl, .inl ⟨SqL.of hp, fin_tupN w trk l⟩⟩
  | tup ds =>
    obtain ⟨p, us, rfl, hp, l⟩ := Rd.tup g.1
    exact ⟨p, us, rfl, .inr ⟨by rw [hK]; exact hp.sq, fin_same (d := .un) (v := .non) w trk hp (pvals l)⟩⟩
  | _ => exact (show False from w).elim
/-- a list of ints -/
theorem ints_at {K : PySem.W.Frag} {k : Nat} {xs : List Mp.D} {ns : List Int} {v : V} (h : Rd C Fz H k (.lst xs) v) (e : Mp.toIs xs = some ns) : ∃ p, v = .ref p ∧ SqL K H p (ns.map V.int) := by
  obtain ⟨p, us, rfl, hp, l⟩ := Rd.lst h
  have := ints_of e l fun i v h => Rd.int h
  subst this
  exact ⟨p, rfl, SqL.of hp⟩
theorem b_sum {K : PySem.W.Frag} : BltR C .sum kd [.rd 9] (rSum K) := by
  intro ds vs A Fz H Q E trk h w
  obtain ⟨d, v, rfl, rfl, g⟩ := h.one
  cases d with
  | lst xs =>
    have w : WF C E kd Fz H (match Mp.toIs xs with | some ns => .ok (.int ns.sum) | none => .bad) Q := w
    cases e : Mp.toIs xs with
    | none => rw [e] at w; exact (show False from w).elim
    | some ns =>
      rw [e] at w
      obtain ⟨p, rfl, hp⟩ := ints_at (K := K) g.1 e
      exact ⟨p, ns, rfl, hp, fin_int w trk⟩
  | _ => exact (show False from w).elim
theorem maxI_spec : ∀ (ns : List Int) (m : Int), Mp.maxI m ns ∈ m :: ns ∧ ∀ y ∈ m :: ns, y ≤ Mp.maxI m ns
  | [], m => ⟨by simp [Mp.maxI], by simp [Mp.maxI]⟩
  | n :: ns, m => by
    obtain ⟨h1, h2⟩ := maxI_spec ns (if m < n then n else m)
    simp only [Mp.maxI]
    have h3 := h2 _ List.mem_cons_self
    constructor
    · rcases List.mem_cons.mp h1 with h | h
      · rw [h]; split <;> simp
      · simp [h]
    · intro y hy
      rcases List.mem_cons.mp hy with rfl | hy
      · split at h3 <;> rename_i hc <;> simp only [hc, if_true, if_false] <;> omega
      · rcases List.mem_cons.mp hy with rfl | hy
        · split at h3 <;> rename_i hc <;> simp only [hc, if_true, if_false] <;> omega
        · exact h2 y (List.mem_cons_of_mem _ hy)
theorem minI_spec : ∀ (ns : List Int) (m : Int), Mp.minI m ns ∈ m :: ns ∧ ∀ y ∈ m :: ns, Mp.minI m ns ≤ y
  | [], m => ⟨by simp [Mp.minI], by simp [Mp.minI]⟩
  | n :: ns, m => by
    obtain ⟨h1, h2⟩ := minI_spec ns (if n < m then n else m)
    simp only [Mp.minI]
    have h3 := h2 _ List.mem_cons_self
    constructor
    · rcases List.mem_cons.mp h1 with h | h
      · rw [h]; split <;> simp
      · simp [h]
    · intro y hy
      rcases List.mem_cons.mp hy with rfl | hy
      · split at h3 <;> rename_i hc <;> simp only [hc, if_true, if_false] <;> omega
      · rcases List.mem_cons.mp hy with rfl | hy
        · split at h3 <;> rename_i hc <;> simp only [hc, if_true, if_false] <;> omega
        · exact h2 y (List.mem_cons_of_mem _ hy)
theorem b_max {K : PySem.W.Frag} : BltR C .max kd [.rd 9] (rMax K) := by
  intro ds vs A Fz H Q E trk h w
  obtain ⟨d, v, rfl, rfl, g⟩ := h.one
  cases d with
  | lst xs =>
    have w : WF C E kd Fz H (match Mp.toIs xs with | some (n :: ns) => .ok (.int (Mp.maxI n ns)) | _ => .bad) Q := w
    cases e : Mp.toIs xs with
    | none => rw [e] at w; exact (show False from w).elim
    | some ns =>
      rw [e] at w
      cases ns with
      | nil => exact (show False from w).elim
      | cons n ns =>
        obtain ⟨p, rfl, hp⟩ := ints_at (K := K) g.1 e
        refine ⟨p, n :: ns, rfl, hp, by simp, fun m hm hy => ?_⟩
        obtain ⟨h1, h2⟩ := maxI_spec ns n
        have : m = Mp.maxI n ns := Int.le_antisymm (h2 m hm) (hy _ h1)
        subst this
        exact fin_int w trk
  | _ => exact (show False from w).elim
theorem b_max2 : BltR C .max kd [.rd 9, .rd 9] (fun xs H Q => ∃ i j, xs = [.int i, .int j] ∧ Q (.int (if j > i then j else i)) H) := by
  intro ds vs A Fz H Q E trk h w
  obtain ⟨d, v, d2, v2, B, B', rfl, rfl, h1, h2⟩ := h.two
  cases d <;> try exact (show False from w).elim
  cases d2 <;> try exact (show False from w).elim
  obtain rfl := Rd.int h1.1
  obtain rfl := Rd.int h2.1
  exact ⟨_, _, rfl, fin_int w trk⟩
theorem b_min2 : BltR C .min kd [.rd 9, .rd 9] (fun xs H Q => ∃ i j, xs = [.int i, .int j] ∧ Q (.int (if j < i then j else i)) H) := by
  intro ds vs A Fz H Q E trk h w
  obtain ⟨d, v, d2, v2, B, B', rfl, rfl, h1, h2⟩ := h.two
  cases d <;> try exact (show False from w).elim
  cases d2 <;> try exact (show False from w).elim
  obtain rfl := Rd.int h1.1
  obtain rfl := Rd.int h2.1
  exact ⟨_, _, rfl, fin_int w trk⟩
end
end MpS

/-! MpSort: sorted of int tuples, any length, any number. -/
namespace MpS
open PySem PySem.Spec PyProof.Rows L2

/-! ### plain -/
theorem ltT_nn (a : List Int) : Mp.ltT a [] = false := by cases a <;> rfl
theorem ltT_iff : ∀ {a b : List Int}, Mp.ltT a b = true → Mp.ltT b a = false
  | [], [], h => by cases h
  | [], _ :: _, _ => rfl
  | _ :: _, [], h => by cases h
  | x :: xs, y :: ys, h => by
    simp only [Mp.ltT] at h ⊢
    by_cases e : x = y
    · subst e
      rw [if_pos rfl] at h ⊢
      exact ltT_iff h
    · rw [if_neg e] at h
      rw [if_neg (Ne.symm e)]
      have := of_decide_eq_true h
      exact decide_eq_false (by omega)
theorem ltT_tr : ∀ {a b c : List Int}, Mp.ltT b a = false → Mp.ltT c b = false → Mp.ltT c a = false
  | [], _, c, _, _ => ltT_nn c
  | x :: xs, [], c, h, _ => by cases h
  | x :: xs, y :: ys, [], _, h => by cases h
  | x :: xs, y :: ys, z :: zs, h1, h2 => by
    simp only [Mp.ltT] at h1 h2 ⊢
    by_cases e1 : y = x
    · subst e1
      rw [if_pos rfl] at h1
      by_cases e2 : z = y
      · subst e2
        rw [if_pos rfl] at h2 ⊢
        exact ltT_tr h1 h2
      · rw [if_neg e2] at h2 ⊢
        exact h2
    · rw [if_neg e1] at h1
      have h1 := of_decide_eq_false h1
      by_cases e2 : z = y
      · subst e2
        rw [if_neg e1]
        exact decide_eq_false h1
      · rw [if_neg e2] at h2
        have h2 := of_decide_eq_false h2
        rw [if_neg (by omega)]
        exact decide_eq_false (by omega)
theorem leL_lt : ∀ (a b : List Int), Mp.leL a b = !Mp.ltT b a
  | [], b => by cases b <;> rfl
  | x :: xs, [] => rfl
  | x :: xs, y :: ys => by
    simp only [Mp.leL, Mp.ltT]
    by_cases e : x = y
    · subst e
      rw [if_pos rfl, if_pos rfl]
      exact leL_lt xs ys
    · rw [if_neg e, if_neg (Ne.symm e), Bool.eq_iff_iff]
      simp only [decide_eq_true_eq, Bool.not_eq_true', decide_eq_false_iff_not]
      omega
theorem ltT_tri : ∀ {a b : List Int}, Mp.ltT a b = false → Mp.ltT b a = false → a = b
  | [], [], _, _ => rfl
  | [], _ :: _, h, _ => by cases h
  | _ :: _, [], _, h => by cases h
  | x :: xs, y :: ys, h1, h2 => by
    simp only [Mp.ltT] at h1 h2
    by_cases e : x = y
    · subst e
      rw [if_pos rfl] at h1 h2
      rw [ltT_tri h1 h2]
    · rw [if_neg e] at h1
      rw [if_neg (Ne.symm e)] at h2
      have h1 := of_decide_eq_false h1
      have h2 := of_decide_eq_false h2
      omega
section
variable {α : Type} {le : α → α → Bool}
theorem insB_perm (x : α) : ∀ l : List α, (Mp.insB le x l).Perm (x :: l)
  | [] => List.Perm.refl _
  | y :: ys => by
    simp only [Mp.insB]
    split
    · exact List.Perm.refl _
    · exact ((insB_perm x ys).cons y).trans (List.Perm.swap x y ys)
theorem isort_perm : ∀ l : List α, (Mp.isort le l).Perm l
  | [] => List.Perm.refl _
  | x :: xs => (insB_perm x _).trans ((isort_perm xs).cons x)
theorem insB_srt (tot : ∀ x y, le x y = true ∨ le y x = true) (tr : ∀ x y z, le x y = true → le y z = true → le x z = true) (x : α) : ∀ l : List α, l.Pairwise (fun a b => le a b = true) → (Mp.insB le x l).Pairwise fun a b => le a b = true
  | [], _ => List.pairwise_singleton _ _
  | y :: ys, h => by
    simp only [Mp.insB]
    obtain ⟨h1, h2⟩ := List.pairwise_cons.mp h
    split
    · rename_i hc
      refine List.pairwise_cons.mpr ⟨fun z hz => ?_, h⟩
      rcases List.mem_cons.mp hz with rfl | hz
      · exact hc
      · exact tr _ _ _ hc (h1 z hz)
    · rename_i hc
      refine List.pairwise_cons.mpr ⟨fun z hz => ?_, insB_srt tot tr x ys h2⟩
      rcases List.mem_cons.mp ((insB_perm x ys).mem_iff.mp hz) with rfl | hz
      · exact (tot z y).resolve_left hc
      · exact h1 z hz
theorem isort_srt (tot : ∀ x y, le x y = true ∨ le y x = true) (tr : ∀ x y z, le x y = true → le y z = true → le x z = true) : ∀ l : List α, (Mp.isort le l).Pairwise fun a b => le a b = true
  | [] => .nil
  | x :: xs => insB_srt tot tr x _ (isort_srt tot tr xs)
theorem isort_uniq (tot : ∀ x y, le x y = true ∨ le y x = true) (tr : ∀ x y z, le x y = true → le y z = true → le x z = true) (anti : ∀ x y, le x y = true → le y x = true → x = y) {l m : List α} (h : l.Perm m) (s : l.Pairwise fun a b => le a b = true) : l = Mp.isort le m :=
  (h.trans (isort_perm m).symm).eq_of_pairwise (fun a b _ _ h1 h2 => anti a b h1 h2) s (isort_srt tot tr m)
end
theorem sortI_uniq {l m : List Int} (h : l.Perm m) (s : l.Pairwise (· ≤ ·)) : l = Mp.isort Mp.leI m :=
  isort_uniq (fun x y => by simp only [Mp.leI, decide_eq_true_eq]; omega) (fun x y z => by simp only [Mp.leI, decide_eq_true_eq]; omega) (fun x y => by simp only [Mp.leI, decide_eq_true_eq]; omega) h (s.imp fun h => by simpa [Mp.leI] using h)
theorem sortL_uniq {l m : List (List Int)} (h : l.Perm m) (s : l.Pairwise fun x y => Mp.ltT y x = false) : l = Mp.isort Mp.leL m := by
  refine isort_uniq (fun x y => ?_) (fun x y z h1 h2 => ?_) (fun x y h1 h2 => ?_) h (s.imp fun h => by rw [leL_lt, h]; rfl)
  · rw [leL_lt, leL_lt]
    cases q : Mp.ltT y x with
    | false => exact .inl rfl
    | true => right; rw [ltT_iff q]; rfl
  · rw [leL_lt] at h1 h2 ⊢
    have h1 : Mp.ltT y x = false := by simpa using h1
    have h2 : Mp.ltT z y = false := by simpa using h2
    rw [ltT_tr h1 h2]
    rfl
  · rw [leL_lt] at h1 h2
    exact ltT_tri (by simpa using h2) (by simpa using h1)

/-! ### the machine's -/
def TIn (h : Heap) (v : Value) (ns : List Int) : Prop := ∃ a o us n, v = .ref a ∧ h.get? a = some o ∧ o.cls = .type "tuple" ∧ o.data = .seq us n ∧ IntsAre us.toList ns
section
variable {prog : Program} {w : World} {A : Around} {s : Shared}
theorem TIn.keeps {h h' : Heap} {v : Value} {ns : List Int} (p : TIn h v ns) (k : ∀ b o, h.get? b = some o → o.cls = .type "tuple" → h'.get? b = some o) : TIn h' v ns := by
  obtain ⟨a, o, us, n, e, ho, hc, hd, hi⟩ := p
  exact ⟨a, o, us, n, e, k _ _ ho hc, hc, hd, hi⟩
theorem swo_ltT (k : Value → List Int) : SrtO.Swo fun v u => Mp.ltT (k v) (k u) := ⟨fun x y h => ltT_iff h, fun x y z h1 h2 => ltT_tr h1 h2⟩
theorem lex_tups {fin : Bool} {Q : Bool → Shared → Prop} : ∀ {us vs : List Value} {ns ms : List Int} (i : Nat), IntsAre us ns → IntsAre vs ms → fin = decide (ns.length < ms.length) → Q (Mp.ltT ns ms) s → PySem.W.KatLex prog w A true fin Q (us.zip vs) i s
  | [], vs, _, ms, i, .nil, hv, e, h => by
    cases hv with
    | nil => subst e; exact PySem.W.kat_nil h
    | cons m t hv => subst e; exact PySem.W.kat_nil (by simpa [Mp.ltT] using h)
  | _ :: us, _, _, _, i, .cons n t hu, .nil, e, h => by subst e; exact PySem.W.kat_nil (by simpa [Mp.ltT] using h)
  | _ :: us, _ :: vs, _, _, i, .cons n t hu, .cons m u hv, e, h => by
    refine PySem.W.kat_cons (SeqAt.EqAt.int_int n t m u prog w _ _ ?_)
    simp only [Mp.ltT] at h
    refine PySem.W.kat_go (fun e1 => ?_) (fun e1 => ?_)
    · have ex : n = m := by simpa using e1
      rw [if_pos ex] at h
      exact PySem.W.kat_yes (lex_tups (i + 1) hu hv (by rw [e]; simp) h)
    · have ex : ¬ n = m := by simpa using e1
      rw [if_neg ex] at h
      exact PySem.W.kat_no (TS.oneLt_ints _ h)
theorem IntsAre.len {us : List Value} {ns : List Int} (h : IntsAre us ns) : us.length = ns.length := by
  induction h with
  | nil => rfl
  | cons _ _ _ ih => simp [ih]
theorem tup_cmp {vs : List Value} {k : Value → List Int} (hp : ∀ v ∈ vs, TIn s.heap v (k v)) : SrtO.Cmp prog w A s (tuples' true) (fun p => p.1 ∈ vs) (SrtO.lt2 fun v u => Mp.ltT (k v) (k u)) := by
  intro p q hm hm'
  have h1 := hp _ hm
  have h2 := hp _ hm'
  show wpAny (model prog w) A (keyLt' (tuples' true) p.1 q.1) (fun r s' => s' = s ∧ r = Mp.ltT (k p.1) (k q.1)) (fun _ _ => False) s
  generalize k p.1 = ns at h1 ⊢
  generalize k q.1 = ms at h2 ⊢
  obtain ⟨a, o, us, n, e, ho, hc, hd, hi⟩ := h1
  obtain ⟨a', o', us', n', e', ho', hc', hd', hi'⟩ := h2
  rw [e, e']
  refine PySem.W.kat_lt ho hd ho' hd' (lex_tups 0 hi hi' ?_ ⟨rfl, rfl⟩)
  rw [← IntsAre.len hi, ← IntsAre.len hi']
  simp
theorem tup_firsts {h : Heap} {k : Value → List Int} : ∀ {vs : List Value}, (∀ v ∈ vs, TIn h v (k v) ∧ k v ≠ []) → ∃ fs : List Value, PySem.W.KatTups h vs fs ∧ fs.length = vs.length ∧ ∀ f ∈ fs, ∃ x t, f = Value.int x t
  | [], _ => ⟨[], PySem.W.KatTups.nil, rfl, fun _ hm => by simp at hm⟩
  | v :: vs, hp => by
    obtain ⟨fs, h1, h2, h3⟩ := tup_firsts (vs := vs) fun v' hm => hp v' (List.mem_cons_of_mem _ hm)
    obtain ⟨⟨a, o, us, n, e, ho, hc, hd, hi⟩, hne⟩ := hp v (List.mem_cons_self ..)
    subst e
    generalize k (.ref a) = ns at hi hne
    obtain ⟨l⟩ := us
    have hi : IntsAre l ns := hi
    cases hi with
    | nil => exact absurd rfl hne
    | @cons x t ul nl hr =>
      refine ⟨.int x t :: fs, PySem.W.KatTups.cons ho hc hd rfl h1, by rw [List.length_cons, List.length_cons, h2], fun f hm => ?_⟩
      rcases List.mem_cons.mp hm with rfl | hm
      · exact ⟨x, t, rfl⟩
      · exact h3 f hm
theorem tup_sortable {a : Addr} {vs : List Value} {k : Value → List Int} (h0 : 0 < vs.length) (hp : ∀ v ∈ vs, TIn s.heap v (k v) ∧ k v ≠ []) (ha : ∀ o, s.heap.get? a = some o → o.cls ≠ .type "tuple") : SrtO.SortableO prog w A s a vs fun v u => Mp.ltT (k v) (k u) := by
  intro h' keep
  have hp' : ∀ v ∈ vs, TIn h' v (k v) ∧ k v ≠ [] := fun v hm => ⟨(hp v hm).1.keeps fun b o e c => keep b o (fun z => by subst z; exact ha o e c) e, (hp v hm).2⟩
  obtain ⟨fs, h1, h2, h3⟩ := tup_firsts hp'
  refine ⟨tuples' true, fun Q E hq => ?_, tup_cmp fun v hm => (hp' v hm).1⟩
  refine PySem.W.kat_kind (T := .type "int") h1 (by omega) (fun f hm => ?_) (by rfl) ?_
  · obtain ⟨x, t, rfl⟩ := h3 f hm
    exact PySem.W.Looks.now
  · have e : (Value.type "int" != Value.type "tuple") = true := by first | decide +kernel | rfl | decide
    rw [e]
    exact hq
theorem sorted_tupsO {l : Addr} {vs : List Value} {k : Value → List Int} {Q : Value → Shared → Prop} {E : Value → Shared → Prop} (hl : s.heap.IsList l vs.toArray) (hz : vs.length ≤ sizeLine) (hp : ∀ v ∈ vs, TIn s.heap v (k v) ∧ k v ≠ [])
    (h : ∀ (h' : Heap) (d : Addr) (out : List Value), SrtO.Srtd (fun v u => Mp.ltT (k v) (k u)) out → out.Perm vs → (∀ b o, s.heap.get? b = some o → h'.get? b = some o) → s.heap.objs.size ≤ d → (∃ n, h'.get? d = some (seqObj "list" out.toArray n)) → Q (.ref d) { s with heap := h' }) :
    wpAny (model prog w) A (call (.builtin "sorted") [.ref l]) Q E s := by
  refine SrtO.sorted_ord (swo_ltT k) hl hz (fun h2 h₁ a ha kk => ?_) fun out hs hb => ?_
  · refine tup_sortable (s := { s with heap := h₁ }) (by omega) (fun v hm => ⟨(hp v hm).1.keeps fun b o e _ => (kk b o e).2, (hp v hm).2⟩) fun o e => ?_
    have e' : some o = some (seqObj "list" vs.toArray 0) := e.symm.trans ha
    cases e'
    intro c
    exact absurd (Value.type.inj c) (by decide)
  · exact h _ _ out hs hb.perm (fun b o e => sortedAll_old e) (Nat.le_succ _) (sortedAll_at s.heap vs out.toArray)
/-- what a tuple holds, gathered: the new list stands at the heap's end -/
theorem gather_tup {l : Addr} {vs : List Value} {Q : List Value → Shared → Prop} {E : Value → Shared → Prop} (hl : s.heap.IsTuple l vs.toArray) (hz : vs.length ≤ sizeLine)
    (q : Q vs { s with heap := (s.heap.push (seqObj "list" #[] 0)).update s.heap.objs.size (Obj.mapSeq (· ++ vs.toArray)) }) : wpAny (model prog w) A (collect (.ref l)) Q E s := by
  obtain ⟨o, ho, hc, n, hd⟩ := hl
  have h1 : (s.heap.push (seqObj "list" #[] 0)).get? l = some o := Heap.get?_push_of_some _ ho
  have h2 : (Value.type "tuple" == Value.type "tuple") = true := by rfl
  unfold collect
  refine wpAny_bind (wpAny_runValue (codeAny_builtin entry_proto_collect' ?_))
  show wpAny _ _ (do again (.builtin "list.__iadd__" ⟨[← newList [], .ref l], []⟩)) _ _ _
  refine wpAny_bind (wpAny_newList (wpAny_pure ⟨Code.quiet_builtin _ (by first | decide +kernel), codeAny_builtin entry_list_iadd' ?_⟩))
  show wpAny _ _ (Builtin.List.listExtendWith (.ref s.heap.objs.size) (.ref l) (.ref s.heap.objs.size)) _ _ ({ s with heap := s.heap.push (seqObj "list" #[] 0) } : Shared)
  unfold Builtin.List.listExtendWith
  refine wpAny_bind (wpAny_typeOf (T := "tuple") ⟨o, h1, hc⟩ ?_)
  rw [if_pos (by rw [h2]; simp)]
  refine wpAny_bind (listItems_at h1 hd (wpAny_bind (listItems_at (n := 0) (xs := #[]) (Heap.get?_push_size _ rfl) rfl ?_)))
  rw [if_neg (by simp)]
  refine wpAny_bind (listUpdate_at (n := 0) (xs := #[]) (Heap.get?_push_size _ rfl) rfl ?_ (Nat.zero_le _) (by show (#[] ++ vs.toArray).size ≤ _; simp only [List.length_nil, Array.size_append, List.size_toArray]; omega))
  refine wpAny_pure ?_
  show wpAny (model prog w) A (do
      let o ← load s.heap.objs.size
      match o.data with
      | .seq xs _ => pure xs.toList
      | _ => unsupported "internal:collect") Q E ({ s with heap := (s.heap.push (seqObj "list" #[] 0)).update s.heap.objs.size (Obj.mapSeq (· ++ vs.toArray)) } : Shared)
  refine wpAny_bind (wpAny_load (get?_update_seq (Heap.get?_push_size _ rfl) _) ?_)
  have h3 : ((#[] : Array Value) ++ vs.toArray).toList = vs := by simp
  show wpAny _ _ (pure ((#[] : Array Value) ++ vs.toArray).toList) Q E _
  rw [h3]
  exact wpAny_pure q
/-- sorted of a tuple of int tuples -/
theorem sorted_tupT {l : Addr} {vs : List Value} {k : Value → List Int} {Q : Value → Shared → Prop} {E : Value → Shared → Prop} (hl : s.heap.IsTuple l vs.toArray) (hz : vs.length ≤ sizeLine) (hp : ∀ v ∈ vs, TIn s.heap v (k v) ∧ k v ≠ [])
    (h : ∀ (h' : Heap) (d : Addr) (out : List Value), SrtO.Srtd (fun v u => Mp.ltT (k v) (k u)) out → out.Perm vs → (∀ b o, s.heap.get? b = some o → h'.get? b = some o) → s.heap.objs.size ≤ d → (∃ n, h'.get? d = some (seqObj "list" out.toArray n)) → Q (.ref d) { s with heap := h' }) :
    wpAny (model prog w) A (call (.builtin "sorted") [.ref l]) Q E s := by
  refine Calls.call_function_entry kind_sorted plain_sorted entry_sorted (args_sorted1 _) ?_
  unfold Builtin.«sorted»
  refine wpAny_bind (m := checkCount "sorted" 1 1 _) (wpAny_pure ?_)
  refine wpAny_bind (gather_tup hl hz (wpAny_bind (wpAny_newList ?_ hz)))
  have kg : ∀ b o, s.heap.get? b = some o → ((s.heap.push (seqObj "list" #[] 0)).update s.heap.objs.size (Obj.mapSeq (· ++ vs.toArray))).get? b = some o := fun b o q => by
    rw [Heap.get?_update_ne _ _ _ _ (Nat.ne_of_lt (Heap.lt_size q))]
    exact Heap.get?_push_of_some _ q
  have le : s.heap.objs.size ≤ ((s.heap.push (seqObj "list" #[] 0)).update s.heap.objs.size (Obj.mapSeq (· ++ vs.toArray))).objs.size := by
    rw [Heap.size_update, size_push']; exact Nat.le_succ _
  generalize ((s.heap.push (seqObj "list" #[] 0)).update s.heap.objs.size (Obj.mapSeq (· ++ vs.toArray))) = g at kg le
  have at0 : (g.push (seqObj "list" vs.toArray 0)).get? g.objs.size = some (seqObj "list" vs.toArray 0) := Heap.get?_push_size _ rfl
  have k1 : ∀ b o, s.heap.get? b = some o → b ≠ g.objs.size ∧ (g.push (seqObj "list" vs.toArray 0)).get? b = some o := fun b o q =>
    ⟨Nat.ne_of_lt (Heap.lt_size (kg b o q)), Heap.get?_push_of_some _ (kg b o q)⟩
  show wpAny _ _ _ _ _ { s with heap := g.push (seqObj "list" vs.toArray 0) }
  refine wpAny_bind (wpAny_holding (wpAny_call_entry slot_list_sort ⟨_, at0, rfl⟩ entry_list_sort (SrtO.list_sort_ord (swo_ltT k) at0 hz (fun h2 => ?_) fun out hs hb => ⟨_, rfl, ?_⟩) (args_list_sort _)))
  · refine tup_sortable (s := { s with heap := g.push (seqObj "list" vs.toArray 0) }) (by omega) (fun v hm => ⟨(hp v hm).1.keeps fun b o e _ => (k1 b o e).2, (hp v hm).2⟩) fun o e => ?_
    have e' : some o = some (seqObj "list" vs.toArray 0) := e.symm.trans at0
    cases e'
    intro c
    exact absurd (Value.type.inj c) (by decide)
  · refine wpAny_pure ⟨_, rfl, h _ _ out hs hb.perm (fun b o e => ?_) le (sortedHeap_at at0)⟩
    obtain ⟨n1, n2⟩ := k1 b o e
    rw [sortedHeap_old n1 (Heap.lt_size n2)]
    exact n2
end
/-- a tuple whose object is known -/
def FT (H : Hp) (t : Addr) (us : List V) : Prop := ∃ ob : Obj, H t = some (.frz ob (.tup us)) ∧ ob.dict = none
/-- the ints of a tuple -/
def kOf (H : Hp) : V → List Int
  | .ref t => match H t with
    | some (.frz _ (.tup us)) => us.map fun
      | .int i => i
      | _ => 0
    | _ => []
  | _ => []
def rSortT (K : PySem.W.Frag) : List V → Hp → VK → Prop := fun vs H Q => ∃ (a : Addr) (xs : List V), vs = [V.ref a] ∧ SqL K H a xs ∧ (∀ x ∈ xs, ∃ t ns, x = V.ref t ∧ FT H t (ns.map V.int) ∧ ns ≠ []) ∧
  ∀ ys p, ys.Perm xs → ys.Pairwise (fun x y => Mp.ltT (kOf H y) (kOf H x) = false) → H p = none → Q (.ref p) (upd H p (.lst ys))
theorem kOf_at {H : Hp} {t : Addr} {ns : List Int} (h : FT H t (ns.map V.int)) : kOf H (.ref t) = ns := by
  obtain ⟨ob, h, _⟩ := h
  simp only [kOf, h, List.map_map, Function.comp_def, List.map_id']
section
variable {X : Cx}
theorem cr_sortT : CallR X (.builtin "sorted") (rSortT X.K) := by
  intro pins s σ H vs us Q I r h
  obtain ⟨a, xs, rfl, hs, hx, q⟩ := h
  obtain ⟨its, rv, hl, hz⟩ := I.list hs
  obtain ⟨u, rfl, ru⟩ := vals1 r
  obtain rfl : u = Value.ref a := ru
  obtain ⟨e1, e2⟩ := refs_back rv fun x m => by
    obtain ⟨t, _, e, _⟩ := hx x m
    exact ⟨t, e⟩
  refine sorted_tupsO (k := fun u => kOf H (backV u)) hl.isList (by rw [← rv.length]; exact hz) (fun v hv => ?_) fun h' d out h1 h2 kp hd hn => ?_
  · obtain ⟨t, rfl⟩ := e2 v hv
    have hm : V.ref t ∈ xs := by rw [e1]; exact List.mem_map.mpr ⟨_, hv, rfl⟩
    obtain ⟨t', ns, e, ht, hne⟩ := hx _ hm
    cases e
    have ek : kOf H (backV (.ref t)) = ns := kOf_at ht
    obtain ⟨ob, ht, _⟩ := ht
    obtain ⟨_, _, its2, r2, o, ho, hc, n, hd⟩ := I.hok _ _ ht
    rw [ek]
    exact ⟨⟨t, o, its2.toArray, n, rfl, ho, hc, hd, by simpa using r2.ints⟩, hne⟩
  · have h3 : ∀ u ∈ out, ∃ a, u = Value.ref a := fun u hu => e2 u (h2.mem_iff.mp hu)
    obtain ⟨n, hn⟩ := hn
    have hb : (out.map backV).Perm xs := by
      rw [e1]
      exact h2.map backV
    refine ⟨.ref d, upd H d (.lst (out.map backV)), I.laid (t' := s.toks) kp hd ⟨?_, out, n, vals_back h3, hn⟩, rfl, q _ d hb (List.pairwise_map.mpr h1) (I.hok.fresh hd)⟩
    rw [hb.length_eq]
    exact hz
end
def rSortTT (K : PySem.W.Frag) : List V → Hp → VK → Prop := fun vs H Q => ∃ (a : Addr) (xs : List V), vs = [V.ref a] ∧ SqT K H a xs ∧ (∀ x ∈ xs, ∃ t ns, x = V.ref t ∧ FT H t (ns.map V.int) ∧ ns ≠ []) ∧
  ∀ ys p, ys.Perm xs → ys.Pairwise (fun x y => Mp.ltT (kOf H y) (kOf H x) = false) → H p = none → Q (.ref p) (upd H p (.lst ys))
section
variable {X : Cx}
theorem cr_sortTT : CallR X (.builtin "sorted") (rSortTT X.K) := by
  intro pins s σ H vs us Q I r h
  obtain ⟨a, xs, rfl, hs, hx, q⟩ := h
  obtain ⟨its, rv, hl, hz⟩ := I.tuple hs
  rw [Vals.ref1 r]
  obtain ⟨e1, e2⟩ := refs_back rv fun x m => by
    obtain ⟨t, _, e, _⟩ := hx x m
    exact ⟨t, e⟩
  refine sorted_tupT (k := fun u => kOf H (backV u)) hl (by rw [← rv.length]; exact hz) (fun v hv => ?_) fun h' d out h1 h2 kp hd hn => ?_
  · obtain ⟨t, rfl⟩ := e2 v hv
    have hm : V.ref t ∈ xs := by rw [e1]; exact List.mem_map.mpr ⟨_, hv, rfl⟩
    obtain ⟨t', ns, e, ht, hne⟩ := hx _ hm
    cases e
    have ek : kOf H (backV (.ref t)) = ns := kOf_at ht
    obtain ⟨ob, ht, _⟩ := ht
    obtain ⟨_, _, its2, r2, o, ho, hc, n, hd⟩ := I.hok _ _ ht
    rw [ek]
    exact ⟨⟨t, o, its2.toArray, n, rfl, ho, hc, hd, by simpa using r2.ints⟩, hne⟩
  · have h3 : ∀ u ∈ out, ∃ a, u = Value.ref a := fun u hu => e2 u (h2.mem_iff.mp hu)
    obtain ⟨n, hn⟩ := hn
    have hb : (out.map backV).Perm xs := by
      rw [e1]
      exact h2.map backV
    refine ⟨.ref d, upd H d (.lst (out.map backV)), I.laid (t' := s.toks) kp hd ⟨?_, out, n, vals_back h3, hn⟩, rfl, q _ d hb (List.pairwise_map.mpr h1) (I.hok.fresh hd)⟩
    rw [hb.length_eq]
    exact hz
end
/-! ### as a builtin of Mp -/
section
variable {C : Cfg} {Fz : Addr → Prop} {H : Hp} {kd : Kd} {X : Cx}
theorem tups_at : ∀ {xs : List Mp.D} {us : List V} {ts : List (List Int)}, Mp.toTs xs = some ts → Paired (Val C Fz H) xs us → us.map (kOf H) = ts ∧ ∀ x ∈ us, ∃ t ns, x = V.ref t ∧ FT H t (ns.map V.int) ∧ ns ≠ [] := by
  intro xs
  induction xs with
  | nil => intro us ts h l; cases l; cases h; exact ⟨rfl, fun x hx => by cases hx⟩
  | cons x xs ih =>
    intro us ts h l
    cases l with
    | @cons _ u _ us' h1 h2 =>
      unfold Mp.toTs at h
      cases q1 : Mp.toT x with
      | none => rw [q1] at h; simp at h
      | some t =>
        cases q2 : Mp.toTs xs with
        | none => rw [q1, q2] at h; simp at h
        | some ts' =>
          rw [q1, q2] at h
          simp only [Option.some.injEq] at h
          subst h
          obtain ⟨i1, i2⟩ := ih q2 h2
          have one : ∃ t', u = V.ref t' ∧ FT H t' (t.map V.int) ∧ t ≠ [] := by
            cases x with
            | tup ys =>
              cases ys with
              | nil => cases q1
              | cons y ys =>
                have q1 : Mp.toIs (y :: ys) = some t := q1
                simp only [Val] at h1
                obtain ⟨p, vs, rfl, hp, lv⟩ := h1
                have := ints_of q1 (pvals lv) fun i v => val_int
                subst this
                rcases hp with hp | ⟨z, _⟩
                · refine ⟨p, rfl, hp, fun z => ?_⟩
                  subst z
                  have := lv.length
                  simp at this
                · have := lv.length
                  rw [z] at this
                  simp at this
            | _ => cases q1
          obtain ⟨t', rfl, ht, hne⟩ := one
          refine ⟨by rw [List.map_cons, i1, kOf_at ht], fun z hz => ?_⟩
          rcases List.mem_cons.mp hz with rfl | hz
          · exact ⟨t', t, rfl, ht, hne⟩
          · exact i2 z hz
theorem tups_out {us ys : List V} {ts : List (List Int)} (k1 : us.map (kOf H) = ts) (k2 : ∀ x ∈ us, ∃ t ns, x = V.ref t ∧ FT H t (ns.map V.int) ∧ ns ≠ []) (h1 : ys.Perm us) (h2 : ys.Pairwise (fun x y => Mp.ltT (kOf H y) (kOf H x) = false)) :
    Paired (Val C Fz H) ((Mp.isort Mp.leL ts).map fun t => .tup (t.map .int)) ys := by
  have h3 : ys.map (kOf H) = Mp.isort Mp.leL ts := sortL_uniq (by rw [← k1]; exact h1.map _) (List.pairwise_map.mpr h2)
  rw [← h3]
  have k3 : ∀ x ∈ ys, ∃ t ns, x = V.ref t ∧ FT H t (ns.map V.int) ∧ ns ≠ [] := fun x hx => k2 x (h1.mem_iff.mp hx)
  clear h3 h1 h2
  induction ys with
  | nil => exact .nil
  | cons y ys ih =>
    obtain ⟨t, ns, rfl, ht, hne⟩ := k3 y List.mem_cons_self
    refine .cons ?_ (ih fun x hx => k3 x (List.mem_cons_of_mem _ hx))
    rw [kOf_at ht]
    simp only [Val]
    refine ⟨t, _, rfl, .inl ht, ?_⟩
    rw [valL_iff]
    clear ht hne k3
    induction ns with
    | nil => exact .nil
    | cons n ns ih => exact .cons (by simp only [Val]) ih
theorem b_sorted {K : PySem.W.Frag} (hK : K = C.K) (hk : kd1 kd = true) : BltR C .sorted kd [.rd 1] (fun xs H Q => (rSortedI K xs H Q ∨ rSortT K xs H Q) ∨ rSortTT K xs H Q) := by
  intro ds vs A Fz H Q E trk h w
  obtain ⟨d, v, rfl, rfl, g⟩ := h.one
  cases d with
  | lst xs =>
    have w : WF C E kd Fz H (Mp.sortD xs) Q := w
    unfold Mp.sortD at w
    cases e : Mp.toIs xs with
    | some ns =>
      rw [e] at w
      obtain ⟨p, rfl, hp⟩ := ints_at (K := K) g.1 e
      refine .inl (.inl ⟨p, ns, rfl, hp, fun ns' q h1 h2 hq => ?_⟩)
      rw [sortI_uniq h1 h2]
      refine fin_lst w trk hk hq ?_
      generalize Mp.isort Mp.leI ns = l
      induction l with
      | nil => exact .nil
      | cons x l ih => exact .cons (by simp only [Val]) ih
    | none =>
      rw [e] at w
      cases e2 : Mp.toTs xs with
      | none => rw [e2] at w; exact (show False from w).elim
      | some ts =>
        rw [e2] at w
        obtain ⟨p, us, rfl, hp, l⟩ := Rd.lst g.1
        obtain ⟨k1, k2⟩ := tups_at e2 l
        exact .inl (.inr ⟨p, us, rfl, SqL.of hp, k2, fun ys q h1 h2 hq => fin_lst w trk hk hq (tups_out k1 k2 h1 h2)⟩)
  | tup xs =>
    have w : WF C E kd Fz H (match Mp.toTs xs with | some ts => .ok (.lst ((Mp.isort Mp.leL ts).map fun t => .tup (t.map .int))) | none => .bad) Q := w
    cases e2 : Mp.toTs xs with
    | none => rw [e2] at w; exact (show False from w).elim
    | some ts =>
      rw [e2] at w
      obtain ⟨p, us, rfl, hp, l⟩ := Rd.tup g.1
      obtain ⟨k1, k2⟩ := tups_at e2 (pvals l)
      exact .inr ⟨p, us, rfl, by rw [hK]; exact hp.sq, k2, fun ys q h1 h2 hq => fin_lst w trk hk hq (tups_out k1 k2 h1 h2)⟩
  | _ => exact (show False from w).elim
end
end MpS

/-! MpMin: min of a tuple of ints. -/
namespace PySem
open Sem (wp)
section
variable {prog : Program} {w : World} {A : Around} {E : Value → Shared → Prop} {s : Shared} {l : Addr} {xs : Array (Int × Tok)}
theorem min_intTup {Q : Value → Shared → Prop} (hh : A.handled = none) (hl : s.heap.IsTuple l (intItems xs)) (hne : 0 < xs.size)
    (h : ∀ v h' tk, (intItems xs)[argBest (fun i j => decide (numAt xs i < numAt xs j)) (xs.size - 1)]? = some v → (∀ b o, s.heap.get? b = some o → h'.get? b = some o) → Q v { s with heap := h', toks := tk }) :
    wpAny (model prog w) A (call (.builtin "min") [.ref l]) Q E s := by
  have hlt : l < s.heap.objs.size := by obtain ⟨_, e, _⟩ := hl; exact Heap.lt_size e
  refine call_min_walk (wpAny_pyIter_tuple hl ?_)
  refine ⟨_, _, _, _, _, _, _, rfl, Walks.tuple (A := A.in1) hh _ l (Nat.ne_of_lt hlt) (intItems xs), ⟨⟨_, Heap.get?_push_size _ rfl, rfl, rfl⟩, hl.push _⟩, fun b hb => ?_, by simpa [intItems] using hne, CmpOf.ints_lt (numAt xs) (fun _ _ => intItems_at), fun v h' tk hP hk => ?_⟩
  · show b < (s.heap.push _).objs.size
    rw [Heap.size_push]
    rcases List.mem_cons.mp hb with rfl | hb
    · exact Nat.lt_succ_self _
    · rcases List.mem_cons.mp hb with rfl | hb
      · exact Nat.lt_succ_of_lt hlt
      · cases hb
  · refine h v h' tk (by simpa [intItems] using hP) fun b o e => ?_
    refine hk b o (fun hm => ?_) (Heap.get?_push_of_some _ e)
    rcases List.mem_cons.mp hm with e1 | hm
    · exact absurd (e1 ▸ Heap.lt_size e) (Nat.lt_irrefl _)
    · cases hm
end
end PySem
namespace MpS
open PySem PySem.Spec PyProof.Rows L2
section
variable {prog : Program} {w : World} {A : Around} {E : Value → Shared → Prop} {s : Shared} {l : Addr} {its : List Value} {ns : List Int} {Q : Value → Shared → Prop}
theorem min_rawT (hh : A.handled = none) (hl : s.heap.IsTuple l its.toArray) (hi : IntsAre its ns) (hne : 0 < ns.length)
    (h : ∀ h' tk M t', (∀ b o, s.heap.get? b = some o → h'.get? b = some o) → M ∈ ns → (∀ a, a ∈ ns → M ≤ a) → Q (.int M t') { s with heap := h', toks := tk }) : wpAny (model prog w) A (call (.builtin "min") [.ref l]) Q E s := by
  obtain ⟨xs, e⟩ := hi.allInts.items
  have hn : numsOf (intItems xs).toList = ns := by rw [← e]; exact hi.numsOf
  rw [nums_intItems] at hn
  subst hn
  rw [e] at hl
  have hsz : 0 < xs.size := by simpa using hne
  refine PySem.min_intTup hh hl hsz fun v h' tk hv hk => ?_
  obtain ⟨t, rfl⟩ := intItems_at hv
  obtain ⟨h1, h2⟩ := argBest_lt (numAt xs) (xs.size - 1)
  refine h h' tk _ t hk ?_ fun a ha => ?_
  · rw [numAt_eq]; exact PySem.getD_mem (by rw [List.length_map, Array.length_toList]; omega)
  · obtain ⟨j, hj, rfl⟩ := mem_getD ha
    rw [List.length_map, Array.length_toList] at hj
    rw [← numAt_eq]; exact h2 j (by omega)
end
def rMinT (K : PySem.W.Frag) : List V → Hp → VK → Prop := fun vs H Q => ∃ (a : Addr) (ns : List Int), vs = [V.ref a] ∧ SqT K H a (ns.map V.int) ∧ 0 < ns.length ∧ ∀ m, m ∈ ns → (∀ y, y ∈ ns → m ≤ y) → Q (.int m) H
section
variable {X : Cx}
theorem cr_minT (hc : X.calm = true) : CallR X (.builtin "min") (rMinT X.K) := by
  intro pins s σ H vs us Q I r h
  obtain ⟨a, ns, rfl, hs, h0, q⟩ := h
  obtain ⟨its, rv, hl, _⟩ := I.tuple hs
  rw [Vals.ref1 r]
  exact min_rawT (I.ok.hd hc) hl rv.ints h0 fun h' tk M t' hk h1 h2 => ⟨.int M, H, I.kept hk, ⟨_, rfl⟩, q M h1 h2⟩
theorem callR_or' {f : Value} {r r' : List V → Hp → VK → Prop} (h : CallR X f r) (h' : CallR X f r') : CallR X f (fun xs H Q => r xs H Q ∨ r' xs H Q) := fun pins s σ H xs us Q I v q => by
  rcases q with q | q
  · exact h pins s σ H xs us Q I v q
  · exact h' pins s σ H xs us Q I v q
end
section
variable {C : Cfg} {Fz : Addr → Prop} {H : Hp} {kd : Kd}
theorem b_minA {K : PySem.W.Frag} (hK : K = C.K) : BltR C .min kd [.rd 9] (fun xs H Q => rMin K xs H Q ∨ rMinT K xs H Q) := by
  intro ds vs A Fz H Q E trk h w
  obtain ⟨d, v, rfl, rfl, g⟩ := h.one
  cases d with
  | lst xs =>
    have w : WF C E kd Fz H (match Mp.toIs xs with | some (n :: ns) => .ok (.int (Mp.minI n ns)) | _ => .bad) Q := w
    cases e : Mp.toIs xs with
    | none => rw [e] at w; exact (show False from w).elim
    | some ns =>
      rw [e] at w
      cases ns with
      | nil => exact (show False from w).elim
      | cons n ns =>
        obtain ⟨p, rfl, hp⟩ := ints_at (K := K) g.1 e
        refine .inl ⟨p, n :: ns, rfl, hp, by simp, fun m hm hy => ?_⟩
        obtain ⟨h1, h2⟩ := minI_spec ns n
        have : m = Mp.minI n ns := Int.le_antisymm (hy _ h1) (h2 m hm)
        subst this
        exact fin_int w trk
  | tup xs =>
    have w : WF C E kd Fz H (match Mp.toIs xs with | some (n :: ns) => .ok (.int (Mp.minI n ns)) | _ => .bad) Q := w
    cases e : Mp.toIs xs with
    | none => rw [e] at w; exact (show False from w).elim
    | some ns =>
      rw [e] at w
      cases ns with
      | nil => exact (show False from w).elim
      | cons n ns =>
        obtain ⟨p, us, rfl, hp, l⟩ := Rd.tup g.1
        have eu := ints_of e (pvals l) fun i v => val_int
        subst eu
        refine .inr ⟨p, n :: ns, rfl, by rw [hK]; exact hp.sq, by simp, fun m hm hy => ?_⟩
        obtain ⟨h1, h2⟩ := minI_spec ns n
        have : m = Mp.minI n ns := Int.le_antisymm (hy _ h1) (h2 m hm)
        subst this
        exact fin_int w trk
  | _ => exact (show False from w).elim
end
end MpS

/-! MpE7: isinstance, methods of dicts and lists, calls. -/
namespace MpS
open PySem PySem.Spec PyProof.Rows L2

/-- a class as isinstance asks of it -/
structure TyF (C : Cfg) (y : Mp.Ty) (u : Value) : Prop where
  non : PySem.W.kitOne C.K (.type "NoneType") u = some (Mp.isTy y .non)
  bl : PySem.W.kitOne C.K (.type "bool") u = some (Mp.isTy y (.bl true))
  int : PySem.W.kitOne C.K (.type "int") u = some (Mp.isTy y (.int 0))
  str : PySem.W.kitOne C.K (.type "str") u = some (Mp.isTy y (.str []))
  tup : PySem.W.kitOne C.K (.type "tuple") u = some (Mp.isTy y (.tup []))
  lst : PySem.W.kitOne C.K (.type "list") u = some (Mp.isTy y (.lst []))
  ins : ∀ c, c < C.nc → PySem.W.kitOne C.K (.ref (C.cad c)) u = some (Mp.isTy y (.ins c [] []))
/-- what isinstance asks of an instance's class -/
structure ClsI (C : Cfg) (c : Nat) : Prop where
  cls : Cls C.K (C.cad c)
  ha : PySem.W.findIn C.K (.ref (C.cad c)) "__class__" = some (some (.builtin "object.__class__"))
  hn : PySem.W.specialIn C.K (.builtin "object.__class__") "__get__" = some (some (.builtin "getset_descriptor.__get__"))
  htk : PySem.W.takesIn C.K (.builtin "object.__class__") = some true
  hm : PySem.W.mroIn C.K (C.cad c) (.type "object") = some true

section
variable {C : Cfg} {G : List Md} {F0 Fz Fz' Fz1 : Addr → Prop} {Hr H H' H1 : Hp} {env : List Mp.D} {σ : L2.St} {As : Nat → List Addr} {E : XK} {kd ka : Kd} {Q : VK} {sf : Mp.Sf} {W : WX}
variable {X : Cx} {a b c : Expr} {a' b' c' : Mp.E} {pos : Pos} {es : List Expr} {es' : List Mp.E}

theorem isTy_at (y : Mp.Ty) {d : Mp.D} {v : V} {k : Nat} {u : Value} (hy : TyF C y u) (hi : ∀ c, c < C.nc → ClsI C c) (h1 : d ≠ .un) (h2 : ∀ ns, d ≠ .scr ns) (h3 : ∀ tk ks vs, d ≠ .dct tk ks vs) (r : Rd C Fz H k d v) :
    ∃ t, TyX C.K H v t ∧ PySem.W.kitOne C.K t u = some (Mp.isTy y d) := by
  cases d with
  | un => exact absurd rfl h1
  | non => obtain rfl := r.non; exact ⟨_, .base .non, hy.non⟩
  | bl x => obtain rfl := r.bl; exact ⟨_, .base (.bl x), by rw [hy.bl]; cases y <;> rfl⟩
  | int x => obtain rfl := r.int; exact ⟨_, .base (.int x), by rw [hy.int]; cases y <;> rfl⟩
  | str x => obtain rfl := r.str; exact ⟨_, .base (.str _), by rw [hy.str]; cases y <;> rfl⟩
  | tup xs =>
    obtain ⟨p, us, rfl, hp, l⟩ := r.tup
    have e : PySem.W.kitOne C.K (.type "tuple") u = some (Mp.isTy y (.tup xs)) := by rw [hy.tup]; cases y <;> rfl
    rcases hp with ⟨o, hp, _⟩ | ⟨rfl, (hp | ⟨o, hp⟩) | hp⟩
    · exact ⟨_, .fTuple hp, e⟩
    · exact ⟨_, .base (.tup hp), e⟩
    · exact ⟨_, .fTuple hp, e⟩
    · obtain ⟨o, its, n, h1, h2, _⟩ := hp
      exact ⟨_, .kTuple h1 h2, e⟩
  | lst xs =>
    obtain ⟨p, us, rfl, hp, l⟩ := r.lst
    exact ⟨_, .base (.lst hp), by rw [hy.lst]; cases y <;> rfl⟩
  | dct tk ks vs => exact absurd rfl (h3 _ _ _)
  | ins c fs vs =>
    obtain ⟨p, dx, fs', us, rfl, hp, hF, l⟩ := r.ins
    obtain ⟨q1, q2, q3, q4, q5⟩ := hi c hF.cl
    exact ⟨_, .base (.ins hp q1 q2 q3 q4 q5), by rw [hy.ins c hF.cl]; cases y <;> rfl⟩
  | scr ns => exact absurd rfl (h2 ns)
theorem e_isi (hK : X.K = C.K) {y : Mp.Ty} {T : Expr} {cv : V} {u : Value} {p : Pos} (hg : Gl X "isinstance") (hm : X.mg "isinstance" = none) (hn : NoSt a) (hn2 : NoSt T) (hy : TyF C y u) (hi : ∀ c, c < C.nc → ClsI C c) (hT : PE X T (tC cv)) (hc : ClsV cv u)
    (ha : PE X a (tE C G sf W (.rd 9) a')) : PE X (.Call (.Name "isinstance" p) [a, T] [] pos) (tE C G sf W kd (.isi a' [y])) := by
  refine PE.imp (pe_callB call_isi hg hm (by first | rfl | decide +kernel) (pa_cons ha (pa_cons hT pa_nil (hn2 [] X.env)) (hn [T] X.env)) (by decide) (by decide) (hn [T] X.env) (nost_any fun e he => by
    obtain rfl : e = T := by simpa using he
    exact hn2)) fun σ H Q ⟨F0, Fz, Hr, env, As, b, w⟩ => ?_
  refine go b w fun x v H1 Fz1 A1 ex e1 b1 r1 n1 f1 w1 => ?_
  have w1 : WF C _ kd Fz1 H1 (Mp.isiD x [y]) Q := w1
  show ∃ (x c : V) (t u : Value) (b : Bool), [v, cv] = [x, c] ∧ ClsV c u ∧ TyX X.K H1 x t ∧ PySem.W.kitOne X.K t u = some b ∧ Q (.bl b) H1
  rw [hK]
  cases x with
  | un => exact (show False from w1).elim
  | scr ns => exact (show False from w1).elim
  | dct tk ks vs => exact (show False from w1).elim
  | _ =>
    obtain ⟨t, ht, hk⟩ := isTy_at y hy hi (by simp) (by simp) (by simp) r1.1
    refine ⟨v, cv, t, u, _, rfl, hc, ht, hk, ?_⟩
    have w1 : Fin C Q kd Fz1 H1 (.bl ([y].any fun t => Mp.isTy t _)) := w1
    simp only [List.any_cons, List.any_nil, Bool.or_false] at w1
    exact fin_bl w1 b1.ext.trk

/-! ### d.get, xs.index -/
theorem nost_few {cpos : Pos} (h : ∀ e ∈ es, NoSt e) (hl : es.length < 30) : ((backTo cpos (starEach es X.env)).all (fun x => !x.1) && (backToKw cpos (keywordEach [] X.env)).all (fun x => x.1.isSome)
    && decide (es.length + ([] : List Keyword).length + (if ([] : List Keyword).isEmpty then 0 else 1) < 30)) = true := by
  have h1 := nost_any (pos := cpos) (env := X.env) h
  have h2 : (backTo cpos (starEach es X.env)).all (fun x => !x.1) = true := by
    rw [List.all_eq_not_any_not]
    simpa using h1
  rw [h2]
  simp [backToKw, keywordEach, hl]
theorem isD_of {p : Addr} {tk : Bool} {ks : List Mp.D} {us : List V} (h : DctAt H p tk ks us) : IsD H p := by
  obtain ⟨_, h⟩ := h
  cases tk with
  | true => obtain ⟨kk, _, h, _⟩ := h; exact .inr ⟨_, .inl h⟩
  | false => obtain ⟨kk, _, h, _⟩ := h; exact .inl ⟨_, .inl h⟩
theorem backTo_one {cpos : Pos} (h : NoSt a) : backTo cpos (starEach [a] X.env) = [(false, eval a X.env)] := by
  rw [h [] X.env]
  rfl
theorem backTo_two {cpos : Pos} (h : NoSt a) (h2 : NoSt b) : backTo cpos (starEach [a, b] X.env) = [(false, eval a X.env), (false, eval b X.env)] := by
  rw [h [b] X.env, h2 [] X.env]
  rfl
theorem e_get (hu : X.A.units + 1 < cLine) (hk : kd0 kd = true) {apos cpos : Pos} (hb0 : noCall0 a = true) (hl : (apos.endLine == cpos.line) = true) (hn : NoSt b) (ha : PE X a (tE C G sf W (.rd 9) a')) (hb : PE X b (tE C G sf W (.rd 9) b')) :
    PE X (.Call (.Attribute a "get" apos) [b] [] cpos) (tE C G sf W kd (.bm .get a' [b'])) := by
  refine PE.imp (pe_gt1 hu ha hb ⟨noCall0_base hb0, nost_few (by simpa using hn) (by simp), hl, backTo_one hn⟩) fun σ H Q ⟨F0, Fz, Hr, env, As, b, w⟩ => ?_
  refine go b w fun x v H1 Fz1 A1 ex e1 b1 r1 n1 f1 w1 => ?_
  have bb : ∀ {α β γ : Type} (r : Mp.R α) (f : α → Mp.R β) (g : β → Mp.R γ), (r.bind f).bind g = r.bind fun x => (f x).bind g := fun r f g => by cases r <;> rfl
  cases x with
  | dct tk ks vs =>
    have w1 : WF C _ kd Fz1 H1 (((Mp.ev b' sf env).bind fun d => .ok [d]).bind fun ds => Mp.bmD .get (.dct tk ks vs) ds) Q := w1
    rw [bb] at w1
    obtain ⟨p, us, rfl, hd, l⟩ := r1.1.dct
    refine ⟨p, rfl, isD_of hd, go b1 w1 fun y u H2 Fz2 A2 ey e2 b2 r2 n2 f2 w2 => ?_⟩
    obtain ⟨p', us', ep, hd, l⟩ := (Rs.grow e2 r1).1.dct
    cases ep
    have w2 : WF C _ kd Fz2 H2 (if Mp.keyD tk y = true then .ok ((Mp.dget ks vs y).getD .non) else .bad) Q := w2
    split at w2
    · rename_i hc
      obtain ⟨o, g, q⟩ := dget_rd hd l hc r2.1
      refine ⟨o, g, ?_⟩
      cases z : Mp.dget ks vs y with
      | none =>
        rw [z] at q w2
        have q : o = none := q
        rw [q]
        exact fin_non w2 b2.ext.trk
      | some d =>
        rw [z] at q w2
        obtain ⟨u, rfl, hv⟩ := q
        exact fin_val w2 b2.ext.trk hk hv
    · exact (show False from w2).elim
  | _ => exact (show False from w1).elim
theorem e_get2 (hu : X.A.units + 1 < cLine) (hk : kd0 kd = true) {apos cpos : Pos} (hb0 : noCall0 a = true) (hl : (apos.endLine == cpos.line) = true) (hn : NoSt b) (hn2 : NoSt c) (ha : PE X a (tE C G sf W (.rd 9) a')) (hb : PE X b (tE C G sf W (.rd 0) b')) (hc : PE X c (tE C G sf W (.rd 0) c')) :
    PE X (.Call (.Attribute a "get" apos) [b, c] [] cpos) (tE C G sf W kd (.bm .get2 a' [b', c'])) := by
  refine PE.imp (pe_gt2 hu ha hb hc ⟨noCall0_base hb0, nost_few (fun e he => by
    rcases List.mem_cons.mp he with h | h
    · rw [h]; exact hn
    · rw [List.mem_singleton.mp h]; exact hn2) (by simp), hl, backTo_two hn hn2⟩) fun σ H Q ⟨F0, Fz, Hr, env, As, b, w⟩ => ?_
  refine go b w fun x v H1 Fz1 A1 ex e1 b1 r1 n1 f1 w1 => ?_
  have bb : ∀ {α β γ : Type} (r : Mp.R α) (f : α → Mp.R β) (g : β → Mp.R γ), (r.bind f).bind g = r.bind fun x => (f x).bind g := fun r f g => by cases r <;> rfl
  cases x with
  | dct tk ks vs =>
    have w1 : WF C _ kd Fz1 H1 (((Mp.ev b' sf env).bind fun d => ((Mp.ev c' sf env).bind fun d => .ok [d]).bind fun ds => .ok (d :: ds)).bind fun ds => Mp.bmD .get2 (.dct tk ks vs) ds) Q := w1
    simp only [bb] at w1
    obtain ⟨p, us, rfl, hd, l⟩ := r1.1.dct
    refine ⟨p, rfl, isD_of hd, go b1 w1 fun y u H2 Fz2 A2 ey e2 b2 r2 n2 f2 w2 => go b2 w2 fun z t H3 Fz3 A3 ez e3 b3 r3 n3 f3 w3 => ?_⟩
    obtain ⟨p', us', ep, hd, l⟩ := (Rs.grow (e2.trans e3) r1).1.dct
    cases ep
    have w3 : WF C _ kd Fz3 H3 (if Mp.keyD tk y = true then .ok ((Mp.dget ks vs y).getD z) else .bad) Q := w3
    split at w3
    · rename_i hc
      obtain ⟨o, g, q⟩ := dget_rd hd l hc (Rs.grow e3 r2).1
      refine ⟨o, g, ?_⟩
      cases zz : Mp.dget ks vs y with
      | none =>
        rw [zz] at q w3
        have q : o = none := q
        rw [q]
        exact fin_val w3 b3.ext.trk hk r3.1
      | some d =>
        rw [zz] at q w3
        obtain ⟨u, rfl, hv⟩ := q
        exact fin_val w3 b3.ext.trk hk hv
    · exact (show False from w3).elim
  | _ => exact (show False from w1).elim
theorem toPys_get : ∀ (xs : List Mp.D) (j : Nat), (toPys xs)[j]? = (xs[j]?).map toPy
  | [], _ => by simp [toPys]
  | x :: xs, 0 => by simp [toPys]
  | x :: xs, j + 1 => by simpa [toPys] using toPys_get xs j
theorem idxL_spec {x : Mp.D} : ∀ {xs : List Mp.D} {k j : Nat}, Mp.idxL x xs k = some j → ∃ m, j = k + m ∧ (∃ y, xs[m]? = some y ∧ Mp.eqD y x = true) ∧ ∀ i y, i < m → xs[i]? = some y → Mp.eqD y x = false
  | [], _, _, h => by cases h
  | y :: ys, k, j, h => by
    unfold Mp.idxL at h
    cases e : Mp.eqD y x with
    | true =>
      rw [e, if_pos rfl] at h
      cases h
      exact ⟨0, rfl, ⟨y, rfl, e⟩, fun i y hi => by omega⟩
    | false =>
      rw [e, if_neg Bool.false_ne_true] at h
      obtain ⟨m, rfl, ⟨z, h1, h2⟩, h3⟩ := idxL_spec h
      refine ⟨m + 1, by omega, ⟨z, by simpa using h1, h2⟩, fun i w hi hw => ?_⟩
      cases i with
      | zero => simp at hw; subst hw; exact e
      | succ i => exact h3 i w (by omega) (by simpa using hw)
theorem okL_get : ∀ {xs : List Mp.D} {n j : Nat} {y : Mp.D}, Mp.okL n xs = true → xs[j]? = some y → Mp.okD n y = true
  | [], _, _, _, _, h => by simp at h
  | x :: xs, n, 0, y, h, e => by simp at e; subst e; simp only [Mp.okL, Bool.and_eq_true] at h; exact h.1
  | x :: xs, n, j + 1, y, h, e => by simp only [Mp.okL, Bool.and_eq_true] at h; exact okL_get h.2 (by simpa using e)
theorem e_index (hK : X.K = C.K) (hu : X.A.units + 65 < cLine) {apos cpos : Pos} (hb0 : noCall0 a = true) (hl : (apos.endLine == cpos.line) = true) (hn : NoSt b) (ha : PE X a (tE C G sf W (.rd 9) a')) (hb : PE X b (tE C G sf W (.rd 9) b')) :
    PE X (.Call (.Attribute a "index" apos) [b] [] cpos) (tE C G sf W kd (.bm .index a' [b'])) := by
  refine PE.imp (pe_idx (mt_indexD hu) ha hb (noCall0_base hb0) (nost_few (by simpa using hn) (by simp)) hl (hn [] X.env)) fun σ H Q ⟨F0, Fz, Hr, env, As, b, w⟩ => ?_
  refine go b w fun x v H1 Fz1 A1 ex e1 b1 r1 n1 f1 w1 => ?_
  have bb : ∀ {α β γ : Type} (r : Mp.R α) (f : α → Mp.R β) (g : β → Mp.R γ), (r.bind f).bind g = r.bind fun x => (f x).bind g := fun r f g => by cases r <;> rfl
  cases x with
  | lst xs =>
    have w1 : WF C _ kd Fz1 H1 (((Mp.ev b' sf env).bind fun d => .ok [d]).bind fun ds => Mp.bmD .index (.lst xs) ds) Q := w1
    rw [bb] at w1
    obtain ⟨p, us, rfl, hp, l⟩ := r1.1.lst
    refine .inl ⟨.inl ⟨rfl, us, SqL.of hp⟩, go b1 w1 fun y u H2 Fz2 A2 ey e2 b2 r2 n2 f2 w2 => ?_⟩
    have r1' := (Rs.grow e2 r1).1
    have w2 : WF C _ kd Fz2 H2 (if (Mp.okD 12 y && Mp.okL 12 xs) = true then (match Mp.idxL y xs 0 with | some j => .ok (.int j) | none => .bad) else .bad) Q := w2
    split at w2
    · rename_i hc
      simp only [Bool.and_eq_true] at hc
      cases q : Mp.idxL y xs 0 with
      | none => rw [q] at w2; exact (show False from w2).elim
      | some j =>
        rw [q] at w2
        obtain ⟨m, rfl, ⟨z, h1, h2⟩, h3⟩ := idxL_spec q
        rw [Nat.zero_add] at w2
        have hy : Mp.okD 13 (.lst xs) = true := by simpa [Mp.okD] using hc.2
        have d1 := dp_rd (K := X.K) hK 9 13 (.lst xs) (.ref p) hy r1'
        have d2 := dp_rd (K := X.K) hK 9 12 y u hc.1 r2.1
        simp only [toPy] at d1
        have sy : SeqAt.shaped (.list (toPys xs)) = true := by
          obtain ⟨h1, h2⟩ := toPy_ok 13 (.lst xs) hy
          simp only [toPy] at h1 h2
          unfold SeqAt.shaped
          rw [h1, decide_eq_true (by omega)]
          rfl
        refine ⟨p, u, _, _, m, toPy z, rfl, rfl, d1, d2, sy, shaped_of hc.1, by rw [toPys_get, h1]; rfl, by rw [eqv_py 12 z y (okL_get hc.2 h1) ⟨12, hc.1⟩, h2], fun i z' hi hz => ?_, fin_int w2 b2.ext.trk⟩
        rw [toPys_get] at hz
        obtain ⟨z0, e0, rfl⟩ := Option.map_eq_some_iff.mp hz
        rw [eqv_py 12 z0 y (okL_get hc.2 e0) ⟨12, hc.1⟩]
        exact h3 i z0 hi e0
    · exact (show False from w2).elim
  | tup xs =>
    obtain ⟨p, us, rfl, hp, l⟩ := r1.1.tup
    rcases hp with ⟨o, hp, hd⟩ | ⟨rfl, hp⟩
    · have w1 : WF C (fun cls dx H' => W cls dx σ H') kd Fz1 H1 (((Mp.ev b' sf env).bind fun d => .ok [d]).bind fun ds => Mp.bmD .index (.tup xs) ds) Q := by
        cases xs with
        | nil => exact (show False from w1).elim
        | cons x xs => exact w1
      rw [bb] at w1
      refine .inr ⟨p, us, o, rfl, hp, hd, go b1 w1 fun y u H2 Fz2 A2 ey e2 b2 r2 n2 f2 w2 => ?_⟩
      have w2 : WF C _ kd Fz2 H2 (if (Mp.flatD y && xs.all Mp.flatD) = true then (match Mp.idxL y xs 0 with | some j => .ok (.int j) | none => .bad) else .bad) Q := w2
      split at w2
      · rename_i hc
        simp only [Bool.and_eq_true] at hc
        cases q : Mp.idxL y xs 0 with
        | none => rw [q] at w2; exact (show False from w2).elim
        | some j =>
          rw [q] at w2
          obtain ⟨m, rfl, ⟨z, h1, h2⟩, h3⟩ := idxL_spec q
          rw [Nat.zero_add] at w2
          have vy := flat_rd hc.1 r2.1
          have l2 : Paired (Val C Fz2 H2) xs us := pvals (ValL.keep e2.sub (.of e2.same) _ _ l)
          have one : ∀ {i : Nat} {d : Mp.D} {w : V}, xs[i]? = some d → us[i]? = some w → flatV w = true ∧ eqV w u = Mp.eqD d y := fun {i d w} g1 g2 => by
            have fd := List.all_eq_true.mp hc.2 d (List.mem_of_getElem? g1)
            have vd : Val C Fz2 H2 d w := by
              have key : ∀ {xs : List Mp.D} {us : List V} {i : Nat}, Paired (Val C Fz2 H2) xs us → xs[i]? = some d → us[i]? = some w → Val C Fz2 H2 d w := by
                intro xs us i l
                induction l generalizing i with
                | nil => intro h _; simp at h
                | cons a _ ih =>
                  intro h1 h2
                  cases i with
                  | zero => simp at h1 h2; subst h1 h2; exact a
                  | succ i => exact ih (by simpa using h1) (by simpa using h2)
              exact key l2 g1 g2
            exact ⟨flat_val fd vd, eqV_eq fd hc.1 vd vy⟩
          have ln := plen l2
          have back : ∀ {i : Nat} {w : V}, us[i]? = some w → ∃ d, xs[i]? = some d := fun {i w} g => ⟨xs[i]'(by rw [ln]; exact (List.getElem?_eq_some_iff.mp g).1), List.getElem?_eq_getElem _⟩
          refine ⟨m, .inl (.inr ⟨o, e2.same _ _ hp⟩), ⟨flat_val hc.1 vy, List.all_eq_true.mpr fun w hw => ?_, ?_, fun i w hi hw => ?_⟩, fin_int w2 b2.ext.trk⟩
          · obtain ⟨i, hi⟩ := List.getElem?_of_mem hw
            obtain ⟨d, hd⟩ := back hi
            exact (one hd hi).1
          · have hm : m < us.length := by rw [← ln]; exact (List.getElem?_eq_some_iff.mp h1).1
            exact ⟨us[m], List.getElem?_eq_getElem hm, by rw [(one h1 (List.getElem?_eq_getElem hm)).2]; exact h2⟩
          · obtain ⟨d, hd⟩ := back hw
            rw [(one hd hw).2]
            exact h3 i d hi hd
      · exact (show False from w2).elim
    · have hx : xs = [] := List.eq_nil_of_length_eq_zero l.length
      subst hx
      exact (show False from w1).elim
  | _ => exact (show False from w1).elim

/-! ### calls -/
/-- what an answer of this kind gives up -/
def kdLe (kd : Kd) (rt : Nat) : Bool := match kd with
  | .rd _ => true
  | .ow k => decide (k ≤ rt)
theorem Fin.less {d : Mp.D} {rt : Nat} (hk : kdLe kd rt = true) (h : Fin C Q kd Fz H d) : Fin C Q (.ow rt) Fz H d := by
  intro v H' Fz' A e r nd fr
  have r : Ow C Fz' H' rt d v A := r
  have mu := Ow.mut rt d v A r
  have ext : ∀ A1 : List Addr, Ext Fz H (fun a => Fz' a ∨ (a ∈ A ∧ a ∉ A1)) H' := fun A1 => ⟨e.same, fun a h => .inl (e.sub a h), fun a h => by
    rcases h with h | ⟨h, _⟩
    · exact e.new a h
    · exact .inr (fr a h).1, fun a h => by
    rcases h with h | ⟨h, _⟩
    · exact e.trk a h
    · obtain ⟨o, ho, _⟩ := mu a h
      exact ⟨o, ho⟩⟩
  cases kd with
  | rd k =>
    refine h v H' _ [] (ext []) ⟨?_, rfl⟩ List.nodup_nil (fun a ha => by cases ha)
    exact Rd.of_val k d v (Ow.freeze (fun _ h => .inl h) rt d v A (fun a ha => .inr ⟨ha, by simp⟩) r)
  | ow k =>
    obtain ⟨A1, s1, q⟩ := Ow.less k rt d v A (of_decide_eq_true hk) nd r
    refine h v H' _ A1 (ext A1) (q _ (fun _ h => .inl h) fun a h1 h2 => .inr ⟨h1, h2⟩) (nd.sublist s1) fun a ha => ⟨(fr a (s1.subset ha)).1, fun z => ?_⟩
    rcases z with z | ⟨_, z⟩
    · exact (fr a (s1.subset ha)).2 z
    · exact z ha
theorem WF.less {r : Mp.R Mp.D} {rt : Nat} (hk : kdLe kd rt = true) (h : WF C E kd Fz H r Q) : WF C E (.ow rt) Fz H r Q := by
  cases r with
  | ok d => exact Fin.less hk h
  | exc d => exact h
  | bad => exact h
/-- what a def promises -/
def spB (C : Cfg) (g : Mp.Sf) (md : List Nat) (rt : Nat) : Sp := fun vs H Q E => ∃ ds Fz A, RsL C Fz H (md.map Kd.rd) ds vs A ∧ (∀ a, Fz a → ∃ o, H a = some o) ∧ WF C E (.ow rt) Fz H (g ds) Q
/-- a def of the module is there, and does what g does -/
structure FnF (P : Program) (w : World) (K : PySem.W.Frag) (mg : Str → Option Value) (base : Heap) (C : Cfg) (x : Str) (g : Mp.Sf) (md : List Nat) (rt lv : Nat) : Prop where
  ex : ∃ f fd ps, mg x = some (.ref f) ∧ PySem.W.keepIn K (.ref f) = true ∧ Binds K fd ps [] ∧ FnOk P w K mg base (L2.CX P w) lv f fd ps (spB C g md rt)
  nd : (x == ("__debug__" : Str)) = false
theorem pe_callSD0 {CX : CXT} {k : Nat} {f : Addr} {fd : FuncData} {ps : List Str} {sp : Sp} {dvs : List V} {ds : List Value} {E : L2.St → XK} {x : Str} {p pos : Pos} (F : FnOk X.prog X.w X.K X.mg X.base CX k f fd ps sp) (hr : Room k X.A) (hg : Gl X x) (hm : X.mg x = some (.ref f)) (hk : PySem.W.keepIn X.K (.ref f) = true) (hb : Binds X.K fd ps ds) (hd : Vals dvs ds) (hx : ∀ σ, PassesAt CX X σ (E σ))
    (hdb : (x == ("__debug__" : Str)) = false) : PE X (.Call (.Name x p) [] [] pos) (tCallSD sp dvs E tNil) := by
  refine ⟨fun pins s σ H Q I h => ?_⟩
  refine wpAny_Call_Name_kw (ld_glob I hg hm ?_ hdb)
  exact PySem.W.callWith_K0 I.kIn hk (run_fnSD (us := []) F hr hb hd (hx σ) I .nil h)
theorem e_callG {g : Mp.Sf} {md : List Nat} {rt lv : Nat} {x : Str} {p : Pos} {e'' : Mp.E} (he : ∀ env, Mp.ev e'' sf env = (Mp.evs es' sf env).bind g) (F : FnF X.prog X.w X.K X.mg X.base C x g md rt lv) (hr : Room lv X.A) (hg : Gl X x) (hx : ∀ σ, PassesAt (L2.CX X.prog X.w) X σ (fun cls dx H => W cls dx σ H))
    (hk : kdLe kd rt = true) (h : Args X C G sf W (md.map Kd.rd) es es') : PE X (.Call (.Name x p) es [] pos) (tE C G sf W kd e'') := by
  obtain ⟨⟨f, fd, ps, hm, hkp, hb, F⟩, hnd⟩ := F
  have key : ∀ σ H (Q : VK), tE C G sf W kd e'' σ H Q → tCallSD (spB C g md rt) [] (fun σ cls dx H => W cls dx σ H) (tA C G sf W (md.map Kd.rd) es') σ H Q := fun σ H Q ⟨F0, Fz, Hr, env, As, b, w⟩ => by
    rw [he] at w
    refine goL b w fun x v H1 Fz1 A1 ex e1 b1 r1 n1 f1 w1 => ?_
    refine ⟨x, Fz1, A1, by rw [List.append_nil]; exact r1, b1.ext.trk, WF.less hk w1⟩
  cases es with
  | nil =>
    have hn := a_of h
    refine PE.imp (pe_callSD0 F hr hg hm hkp hb .nil hx hnd) fun σ H Q q => ?_
    have := key σ H Q q
    have e1 : es' = [] := List.eq_nil_of_length_eq_zero h.len.2
    have e2 : md = [] := by simpa using h.len.1
    subst e1 e2
    obtain ⟨F0, Fz, Hr, env, As, b, w⟩ := this
    exact RsL.nil_ext b.ext.trk (show FinL C (fun vs H1 => spB C g [] rt (vs ++ []) H1 Q _) [] Fz H [] from w)
  | cons e es =>
    exact PE.imp (pe_callSD F hr hg hm hkp hb .nil hx (a_of h) hnd (h.nost e List.mem_cons_self es X.env) (nost_any fun e he => h.nost e (List.mem_cons_of_mem _ he))) key

/-! ### methods, instances -/
theorem meth_tree {m : Str} {apos : Pos} {env : Env} (hb0 : noCall0 a = true) (hl : (apos.endLine == pos.line) = true) (hn : ∀ e ∈ es, NoSt e) (h30 : es.length < 30) :
    eval (.Call (.Attribute a m apos) es [] pos) env = (do
      let ov ← eval a env
      standAt apos.atName
      let (f, first) ← holding [ov] (getMethod ov m (do return (← importBound a env).getD true))
      callWith pos f first (backTo pos (starEach es env)) (backToKw pos (keywordEach [] env))) := by
  have hb : attributeBase a m env (eval a env) = eval a env := by
    unfold attributeBase
    split
    · cases hb0
    · rfl
  have hform : methodCallForm (es.length + ([] : List Keyword).length) (backTo pos (starEach es env)) (backToKw pos (keywordEach [] env)) = true := by
    have h1 := nost_any (pos := pos) (env := env) hn
    have h2 : (backTo pos (starEach es env)).all (fun x => !x.1) = true := by
      rw [List.all_eq_not_any_not]
      simpa using h1
    unfold methodCallForm
    rw [h2]
    simp [backToKw, keywordEach, h30]
  have hpos : ∀ b, methodCallPos b a env apos pos = pure pos := fun b => by unfold methodCallPos; simp [hl]
  rw [arm_eval_Call, hb]
  unfold methodCall
  rw [hform]
  unfold calleeOf
  simp only [hpos, if_true]
  simp only [pure_bind]
/-- a method of the class numbered c -/
structure MtF (P : Program) (w : World) (K : PySem.W.Frag) (mg : Str → Option Value) (base : Heap) (C : Cfg) (c : Nat) (m : Str) (g : Mp.Sf) (md : List Nat) (rt lv : Nat) : Prop where
  ex : ∃ f fd ps, Meth K (C.cad c) m f ∧ Binds K fd ps [] ∧ FnOk P w K mg base (L2.CX P w) lv f fd ps (spB C g md rt)
theorem isCls_of {c : Nat} {x : Mp.D} (h : Mp.isCls c x = true) : ∃ fs vs, x = .ins c fs vs := by
  cases x <;> first | (cases h; done) | (simp only [Mp.isCls, beq_iff_eq] at h; subst h; exact ⟨_, _, rfl⟩)
theorem e_meth {g : Mp.F} {lv c : Nat} {m : Str} {m0 : Nat} {ms : List Nat} {apos : Pos} (hK : X.K = C.K) (hmd : g.md = m0 :: ms) (F : MtF X.prog X.w X.K X.mg X.base C c m (Mp.run g) (m0 :: ms) g.rt lv) (hF : ∀ f ∈ C.FN, f ≠ m) (hc : ClsF C c) (hr : Room lv X.A) (hx : ∀ σ, PassesAt (L2.CX X.prog X.w) X σ (fun cls dx H => W cls dx σ H))
    (hb0 : noCall0 a = true) (hl : (apos.endLine == pos.line) = true) (h30 : es.length < 30) (hk : kdLe kd g.rt = true) (ha : PE X a (tE C G sf W (.rd m0) a')) (h : Args X C G sf W (ms.map Kd.rd) es es') :
    PE X (.Call (.Attribute a m apos) es [] pos) (tE C G sf W kd (.meth c g a' es')) := by
  obtain ⟨f, fd, ps, hm, hb, F⟩ := F.ex
  refine ⟨fun pins s σ H Q I q => ?_⟩
  obtain ⟨F0, Fz, Hr, env, As, b, w⟩ := q
  have q : tE C G sf W (.rd m0) a' σ H fun x H1 => ∃ p dx fs, x = .ref p ∧ H1 p = some (.ins (C.cad c) dx fs) ∧ fs.lookup m = none ∧ tA C G sf W (ms.map Kd.rd) es' σ H1 fun vs H2 => spB C (Mp.run g) (m0 :: ms) g.rt (x :: vs) H2 Q (fun cls dx H => W cls dx σ H) := by
    refine go b w fun x v H1 Fz1 A1 ex e1 b1 r1 n1 f1 w1 => ?_
    have w1 : WF C _ kd Fz1 H1 (if Mp.isCls c x = true then (Mp.evs es' sf env).bind fun ds => Mp.run g (x :: ds) else .bad) Q := w1
    split at w1
    · rename_i hi
      obtain ⟨fs, vs, rfl⟩ := isCls_of hi
      obtain ⟨p, dx, fs', us, rfl, hp, hF', l⟩ := Rd.ins r1.1
      refine ⟨p, dx, fs', rfl, hp, hF'.no m fun z => hF m z rfl, goL b1 w1 fun y u H2 Fz2 A2 ey e2 b2 r2 n2 f2 w2 => ?_⟩
      exact ⟨_ :: y, Fz2, [] ++ A2, ⟨_, _, _, _, [], A2, rfl, rfl, rfl, ⟨(Rs.grow e2 r1).1, rfl⟩, r2⟩, b2.ext.trk, WF.less hk w2⟩
    · exact (show False from w1).elim
  refine PySem.W.methodCall_KW (thn (ha.run pins s σ H _ I q) fun u s1 ⟨x, H1, I1, rx, p, dx, fs, ex, ea, l, q1⟩ => ?_) (meth_tree hb0 hl h.nost h30)
  subst ex
  obtain rfl : u = Value.ref p := rx
  refine getmeth_ok I1 ea (by rw [hK]; exact hc.cls) hm l ?_
  cases es with
  | nil =>
    refine PySem.W.callWith_K0 (first := [.ref p]) I1.kIn hm.kp (run_fnSD (E := fun σ cls dx H => W cls dx σ H) (us := [.ref p]) (vs := [.ref p]) F hr hb .nil (hx σ) I1 (.cons rfl .nil) ?_)
    have e1 : es' = [] := List.eq_nil_of_length_eq_zero h.len.2
    have e2 : ms = [] := by simpa using h.len.1
    subst e1 e2
    obtain ⟨F0, Fz, Hr, env, As, b, w⟩ := q1
    have := RsL.nil_ext (Q := fun vs H2 => spB C (Mp.run g) [m0] g.rt (.ref p :: vs) H2 Q (fun cls dx H => W cls dx σ H)) b.ext.trk w
    simpa using this
  | cons e es =>
    refine PySem.W.callWith_K (first := [.ref p]) (h₀ := X.base) I1.ok.mod.kin hm.kp (thn ((a_of h).run pos pins s1 σ H1 _ I1 q1) fun us s2 ⟨vs, H2, I2, r, q2⟩ => ⟨I2.kIn, ?_⟩) (h.nost e List.mem_cons_self es X.env) (nost_any fun e he => h.nost e (List.mem_cons_of_mem _ he))
    exact run_fnSD (E := fun σ cls dx H => W cls dx σ H) (us := .ref p :: us) (vs := .ref p :: vs) F hr hb .nil (hx σ) I2 (.cons rfl r) (by simpa using q2)
/-- what an __init__ promises: its instance, new, is changed alone -/
def spI (C : Cfg) (c : Nat) (g : Mp.Sf) (md : List Nat) : Sp := fun vs H Q E => ∃ p dx ds us Fz A H0, vs = .ref p :: us ∧ c < C.nc ∧ H0 p = none ∧ H0 dx = none ∧ dx ≠ p ∧ H = upd (upd H0 dx (.own p)) p (.ins (C.cad c) dx []) ∧
  RsL C Fz H0 (md.map Kd.rd) ds us A ∧ (∀ a, Fz a → ∃ o, H0 a = some o) ∧ Wg C E Fz H0 (g (.ins c [] [] :: ds)) fun d => ∀ H' Fz' B, Ext Fz H0 Fz' H' → Ow C Fz' H' 1 d (.ref p) B → B.Nodup → (∀ a ∈ B, H0 a = none ∧ ¬ Fz' a) → Q .non H'
structure MkF (P : Program) (w : World) (K : PySem.W.Frag) (mg : Str → Option Value) (base : Heap) (C : Cfg) (c : Nat) (x : Str) (g : Mp.Sf) (md : List Nat) (lv : Nat) : Prop where
  ex : ∃ f fd ps, mg x = some (.ref (C.cad c)) ∧ Mk K (C.cad c) f ∧ Binds K fd ps [] ∧ FnOk P w K mg base (L2.CX P w) lv f fd ps (spI C c g md)
  nc : c < C.nc
  nd : (x == ("__debug__" : Str)) = false
theorem run_makeS {CX : CXT} {k : Nat} {f Ca : Addr} {fd : FuncData} {ps : List Str} {sp : Sp} {dvs : List V} {ds : List Value} {E : XK} {pins : List (Addr × Obj)} {σ : L2.St} {H : Hp} {s : Shared} {Q : VK} {us : List Value} {vs : List V} (M : Mk X.K Ca f) (F : FnOk X.prog X.w X.K X.mg X.base CX k f fd ps sp) (hr : Room (k + 1) X.A) (hb : Binds X.K fd ps ds) (hd : Vals dvs ds)
    (hx : PassesAt CX X σ E) (I : Inv X pins σ H s) (r : Vals vs us)
    (h : ∀ x dx, H x = none → H dx = none → dx ≠ x → sp (.ref x :: (vs ++ dvs)) (upd (upd H dx (.own x)) x (.ins Ca dx [])) (fun v H2 => v = .non ∧ Q (.ref x) H2) E) :
    wpAny (model X.prog X.w) X.A (call (.ref Ca) us) (EP X pins σ Q) X.xe s := by
  have hq := h (s.heap.objs.size + 1) s.heap.objs.size (I.hok.fresh (Nat.le_succ _)) (I.hok.fresh (Nat.le_refl _)) (Nat.ne_of_lt (Nat.lt_succ_self _))
  have I2 := Inv.made (C := Ca) I
  have r2 : Vals (V.ref (s.heap.objs.size + 1) :: (vs ++ dvs)) (Value.ref (s.heap.objs.size + 1) :: (us ++ ds)) := .cons rfl (r.append hd)
  have hl : (Value.ref (s.heap.objs.size + 1) :: us ++ ds).length = ps.length := by
    have e := r2.length
    rw [F.len _ _ _ _ hq] at e
    exact e.symm
  refine wpAny_call (make_map (f := f) I.kIn M.makes M.init (beq_iff_eq.mp M.fn) (codeAny_mono (F.run _ X.stack _ _ ⟨Value.ref (s.heap.objs.size + 1) :: us, []⟩ (Value.ref (s.heap.objs.size + 1) :: (us ++ ds)) _ _ E (hr.make Ca us [])
    (I2.env0.make Ca us []) (hb _ (Value.ref (s.heap.objs.size + 1) :: us) I2.kIn hl) r2 hq) fun r s' hq' => ?_))
  cases r with
  | error e => exact hx pins _ _ e s' I2 hq'
  | ok fl =>
    cases fl with
    | ret u =>
      obtain ⟨v, H', I3, rv, ev, q3⟩ := I2.after hq'
      subst ev
      exact ⟨rv, ⟨V.ref (s.heap.objs.size + 1), H', I3, rfl, q3⟩⟩
    | next => exact False.elim hq'
    | brk => exact False.elim hq'
    | cont => exact False.elim hq'
theorem e_mk {g : Mp.F} {lv c : Nat} {x : Str} {ms : List Nat} {p : Pos} (F : MkF X.prog X.w X.K X.mg X.base C c x (Mp.run g) ms lv) (hr : Room (lv + 1) X.A) (hg : Gl X x) (hx : ∀ σ, PassesAt (L2.CX X.prog X.w) X σ (fun cls dx H => W cls dx σ H))
    (hk : kd1 kd = true) (h : Args X C G sf W (ms.map Kd.rd) es es') : PE X (.Call (.Name x p) es [] pos) (tE C G sf W kd (.mk c g es')) := by
  obtain ⟨⟨f, fd, ps, hm, M, hb, F⟩, hnc, hnd⟩ := F
  have hk' : kdLe kd 1 = true := by cases kd with
    | rd k => rfl
    | ow k => exact hk
  have key : ∀ σ H (Q : VK), tE C G sf W kd (.mk c g es') σ H Q → tA C G sf W (ms.map Kd.rd) es' σ H fun vs H1 => ∀ x dx, H1 x = none → H1 dx = none → dx ≠ x →
      spI C c (Mp.run g) ms (.ref x :: (vs ++ [])) (upd (upd H1 dx (.own x)) x (.ins (C.cad c) dx [])) (fun v H2 => v = .non ∧ Q (.ref x) H2) (fun cls dx H => W cls dx σ H) := fun σ H Q ⟨F0, Fz, Hr, env, As, b, w⟩ => by
    refine goL b w fun y v H1 Fz1 A1 ex e1 b1 r1 n1 f1 w1 => ?_
    intro x dx h1 h2 h3
    refine ⟨x, dx, y, v, Fz1, A1, H1, by rw [List.append_nil], hnc, h1, h2, h3, rfl, r1, b1.ext.trk, ?_⟩
    exact Wg.imp (WF.less hk' w1) fun d _ q H' Fz' B e o nd no => ⟨rfl, q _ H' Fz' B e o nd no⟩
  cases es with
  | nil =>
    refine ⟨fun pins s σ H Q I q => ?_⟩
    refine wpAny_Call_Name_kw (ld_glob I hg hm ?_ hnd)
    refine PySem.W.callWith_K0 I.kIn M.kp (run_makeS (E := fun cls dx H => W cls dx σ H) (us := []) (vs := []) M F hr hb .nil (hx σ) I .nil ?_)
    have := key σ H Q q
    have e1 : es' = [] := List.eq_nil_of_length_eq_zero h.len.2
    have e2 : ms = [] := by simpa using h.len.1
    subst e1 e2
    obtain ⟨F0, Fz, Hr, env, As, b, w⟩ := this
    exact RsL.nil_ext (Q := fun vs H1 => ∀ x dx, H1 x = none → H1 dx = none → dx ≠ x → spI C c (Mp.run g) [] (.ref x :: (vs ++ [])) (upd (upd H1 dx (.own x)) x (.ins (C.cad c) dx [])) (fun v H2 => v = .non ∧ Q (.ref x) H2) (fun cls dx H => W cls dx σ H)) b.ext.trk w
  | cons e es =>
    refine ⟨fun pins s σ H Q I q => ?_⟩
    refine wpAny_Call_Name_kw (ld_glob I hg hm ?_ hnd)
    refine PySem.W.callWith_K (h₀ := X.base) I.ok.mod.kin M.kp (thn ((a_of h).run pos pins s σ H _ I (key σ H Q q)) fun us s1 ⟨vs, H1, I1, r, q⟩ => ⟨I1.kIn, ?_⟩) (h.nost e List.mem_cons_self es X.env) (nost_any fun e he => h.nost e (List.mem_cons_of_mem _ he))
    exact run_makeS (E := fun cls dx H => W cls dx σ H) M F hr hb .nil (hx σ) I1 r q
end
end MpS

/-! MpHot: what an except suite asks of the exception that it holds. -/
namespace MpS
open PySem PySem.Spec PyProof.Rows L2

/-- the context is a suite's, and it holds the exception that the frame speaks of -/
structure HotE (X : Cx) (C : Cfg) : Prop where
  ex : ∃ (Y : Cx) (oe : Obj) (pn : List (Addr × Obj)), X = Y.suite C.cur.xa ((C.cur.xa, oe) :: pn) ∧ Zc C.cur.xc C.cur.xd oe ∧ ∃ vs, oe.data = .fields vs
/-- what must be seen of an exception's class -/
structure XcF (C : Cfg) (c : Nat) : Prop where
  xf : XfC C.K (C.xad c)
  no : ∀ f ∈ C.FN, PySem.W.findIn C.K (.ref (C.xad c)) f = some none
  cl : (PySem.W.clsIn C.K (C.xad c)).isSome = true
  ha : PySem.W.findIn C.K (.ref (C.xad c)) "__class__" = some (some (.builtin "object.__class__"))
  hn : PySem.W.specialIn C.K (.builtin "object.__class__") "__get__" = some (some (.builtin "getset_descriptor.__get__"))
  ht : PySem.W.takesIn C.K (.builtin "object.__class__") = some true
  hm : PySem.W.mroIn C.K (C.xad c) (.type "object") = some true
/-- a class that isinstance asks of an exception -/
structure XiF (mg : Str → Option Value) (C : Cfg) (x : Str) (k : Nat) : Prop where
  ex : ∃ cv u, ClsV cv u ∧ RelV cv u ∧ ((mg x = some u) ∨ (mg x = none ∧ bootBuiltins x = some u ∧ x ≠ "__name__")) ∧ ∀ c, c < C.nx → PySem.W.kitOne C.K (.ref (C.xad c)) u = some (Mp.hitX k c)
  nd : (x == ("__debug__" : Str)) = false
section
variable {X : Cx} {C : Cfg} {pins : List (Addr × Obj)} {σ : L2.St} {H : Hp} {s : Shared}
/-- the exception as it stands -/
theorem hot_inst (hh : HotE X C) (I : Inv X pins σ H s) {d : Mp.D} {Fz : Addr → Prop} (xr : XRep C Fz H d C.cur.xc C.cur.xd) : ∃ c fs vs oe od, d = .ins c fs vs ∧ c < C.nx ∧ PySem.W.InstAt s.heap C.cur.xa oe (C.xad c) od ∧
    ((fs = [] ∧ vs = []) ∨ ∃ (mA : Str → Option Value) (o : Obj) (us : List V), od = some o ∧ (∀ n, PySem.W.lookIn n o = some (mA n)) ∧ (∀ f x, C.FN[f]? = some x → RelO (Mp.fget fs us f) (mA x)) ∧ ValL C Fz H vs us) := by
  obtain ⟨Y, oe, pn, rfl, hz, hv⟩ := hh.ex
  cases d with
  | ins c fs vs =>
    obtain ⟨hc, ec, h⟩ := xr
    obtain ⟨ha, _⟩ := I.pin (C.cur.xa, oe) (List.mem_append_left _ List.mem_cons_self)
    obtain ⟨ws, hd⟩ := hv
    have nc : PySem.W.notCls oe = true := by
      unfold PySem.W.notCls
      rw [hd]
    have e1 : oe.cls = .ref (C.xad c) := hz.1.trans ec
    rcases h with ⟨rfl, rfl, ed⟩ | ⟨a, fs', us, ed, _, hx, hF, l⟩
    · refine ⟨c, [], [], oe, none, rfl, hc, ⟨ha, e1, nc, ?_⟩, .inl ⟨rfl, rfl⟩⟩
      have e2 : oe.dict = none := hz.2.trans ed
      rw [e2]
      trivial
    · have hx2 : ObjOk Y.prog Y.w H s.heap a (.xd fs') := I.hok a _ hx
      obtain ⟨mA, hns, hr⟩ := hx2
      obtain ⟨od, ho, hl⟩ := lookIn_ns hns
      have e2 : oe.dict = some a := hz.2.trans ed
      refine ⟨c, fs, vs, oe, some od, rfl, hc, ⟨ha, e1, nc, by rw [e2]; exact ho⟩, .inr ⟨mA, od, us, rfl, hl, fun f x hf => ?_, l⟩⟩
      rw [← hF.at_ f x hf]
      exact hr x
  | _ => exact xr.elim
end
section
variable {C : Cfg} {G : List Md} {kd : Kd} {sf : Mp.Sf} {W : WX} {X : Cx} {pos : Pos}
theorem fget_val {Fz : Addr → Prop} {H : Hp} {i : Nat} : ∀ {fs : List Nat} {vs : List Mp.D} {us : List V}, Paired (Val C Fz H) vs us → ∀ d, Mp.fget fs vs i = some d → ∃ u, Mp.fget fs us i = some u ∧ Val C Fz H d u
  | [], _, _, l, d, h => by cases l <;> cases h
  | f0 :: fs, _, _, .nil, d, h => by cases h
  | f0 :: fs, _, _, .cons h1 h2, d, h => by
    simp only [Mp.fget] at h ⊢
    by_cases e : f0 = i
    · rw [if_pos e] at h ⊢
      cases h
      exact ⟨_, rfl, h1⟩
    · rw [if_neg e] at h ⊢
      exact fget_val h2 d h
/-- e.f -/
theorem e_xat (hK : X.K = C.K) (hh : HotE X C) (hk : kd0 kd = true) {i j : Nat} {x f : Str} {p : Pos} (hN : X.N[i]? = some x) (hv : Vis X.env.scope x) (hd : (x == ("__debug__" : Str)) = false) (hcd : (x == ("__classdict__" : Str)) = false) (hm : G[i]? = some .ex)
    (hf : C.FN[j]? = some f) (hc : ∀ c, c < C.nx → XcF C c) : PE X (.Attribute (.Name x p) f pos) (tE C G sf W kd (.xat i j)) := by
  refine ⟨fun pins s σ H Q I q => ?_⟩
  obtain ⟨F0, Fz, Hr, env, As, b, w⟩ := q
  have w : WF C (fun cls dx H' => W cls dx σ H') kd Fz H (match env[i]? with | some d => Mp.xatD d j | none => .bad) Q := w
  cases he : env[i]? with
  | none => rw [he] at w; exact (show False from w).elim
  | some d =>
    rw [he] at w
    have hun : d ≠ .un := fun z => by subst z; exact (show False from w).elim
    obtain ⟨v, ev, hx, xr⟩ := b.look hm he hun
    subst hx
    obtain ⟨c, fs, vs, oe, od, rfl, hlt, J, h⟩ := hot_inst hh I xr
    have w : WF C (fun cls dx H' => W cls dx σ H') kd Fz H (Mp.R.of (Mp.fget fs vs j)) Q := w
    refine attr_of (by rfl) (thn ((pe_var hN hv hd hcd).run pins s σ H (fun x H1 => x = .ref C.cur.xa ∧ H1 = H) I ⟨_, ev, rfl, rfl⟩) fun u s1 hs => ?_)
    obtain ⟨y, H1, I1, ry, rfl, rfl⟩ := hs
    obtain rfl : u = Value.ref C.cur.xa := ry
    obtain ⟨c', fs1, vs1, oe, od, e1, hlt, J, h⟩ := hot_inst hh I1 xr
    cases e1
    cases q : Mp.fget fs vs j with
    | none => rw [q] at w; exact (show False from w).elim
    | some dd =>
      rw [q] at w
      rcases h with ⟨rfl, rfl⟩ | ⟨mA, o, us, rfl, hl, hr, l⟩
      · cases q
      · obtain ⟨z, hz, vz⟩ := fget_val (pvals l) dd q
        have r := hr j f hf
        rw [hz] at r
        obtain ⟨u', hu, ru⟩ := RelO.some_of (v := z) (o := mA f) r
        have T := hc c hlt
        have X1 := I1.kIn
        rw [hK] at X1
        refine HandSPX.exc_get X1 J T.xf.ga T.xf.gg T.xf.exC (PySem.W.findObj_own T.xf.hdC (T.no f (List.mem_of_getElem? hf)) rfl (by rw [hl, hu])) (handed_of ru) ⟨z, H1, I1.tok _, ru, ?_⟩
        exact fin_val w b.ext.trk hk vz
/-- isinstance(e, T) -/
theorem e_xis (hK : X.K = C.K) (hh : HotE X C) {i k : Nat} {x ty : Str} {p p2 p3 : Pos} (hN : X.N[i]? = some x) (hv : Vis X.env.scope x) (hd : (x == ("__debug__" : Str)) = false) (hcd : (x == ("__classdict__" : Str)) = false) (hm : G[i]? = some .ex)
    (hg : Gl X "isinstance") (hgm : X.mg "isinstance" = none) (hT : Gl X ty) (xi : XiF X.mg C ty k) (hc : ∀ c, c < C.nx → XcF C c) : PE X (.Call (.Name "isinstance" p) [.Name x p2, .Name ty p3] [] pos) (tE C G sf W kd (.xis i k)) := by
  obtain ⟨⟨cv, u, hcv, ru, hmg, hkit⟩, tnd⟩ := xi
  have pT : PE X (.Name ty p3) (tC cv) := by
    rcases hmg with h | ⟨h1, h2, h3⟩
    · exact pe_glob hT h ru tnd
    · exact pe_bltn hT h1 h2 ru h3 tnd
  have call : CallR X (.builtin "isinstance") (fun xs H Q => xs = [.ref C.cur.xa, cv] ∧ ∃ d Fz c fs vs, XRep C Fz H d C.cur.xc C.cur.xd ∧ d = .ins c fs vs ∧ Q (.bl (Mp.hitX k c)) H) := by
    intro pins s σ H xs us Q I r h
    obtain ⟨rfl, d, Fz, c, fs, vs, xr, rfl, q⟩ := h
    obtain ⟨v1, v2, rfl, r1, r2⟩ := vals2 r
    obtain rfl : v1 = Value.ref C.cur.xa := r1
    have e2 := hcv.eq r2
    subst e2
    obtain ⟨c', fs1, vs1, oe, od, e1, hlt, J, h⟩ := hot_inst hh I xr
    cases e1
    have T := hc c hlt
    have X1 := I.kIn
    rw [hK] at X1
    exact PySem.W.kia_one (PySem.W.kitx_exc T.cl T.xf.ga T.xf.gg T.xf.exC T.ha T.hn T.ht T.hm) X1 J (hkit c hlt) (fun z => nomatch z) fun tk => ⟨.bl (Mp.hitX k c), H, I.kept (t' := tk) fun _ _ z => z, rfl, q⟩
  refine PE.imp (pe_callB call hg hgm (by first | rfl | decide +kernel) (pa_cons (pe_var hN hv hd hcd) (pa_cons pT pa_nil (by rfl)) (by rfl))) fun σ H Q ⟨F0, Fz, Hr, env, As, b, w⟩ => ?_
  have w : WF C (fun cls dx H' => W cls dx σ H') kd Fz H (match env[i]? with | some d => Mp.xisD d k | none => .bad) Q := w
  cases he : env[i]? with
  | none => rw [he] at w; exact (show False from w).elim
  | some d =>
    rw [he] at w
    have hun : d ≠ .un := fun z => by subst z; exact (show False from w).elim
    obtain ⟨v, ev, rfl, xr⟩ := b.look hm he hun
    refine ⟨_, ev, ?_⟩
    cases d with
    | ins c fs vs => exact ⟨rfl, _, Fz, c, fs, vs, xr, rfl, fin_bl (show Fin C Q kd Fz H (.bl (Mp.hitX k c)) from w) b.ext.trk⟩
    | _ => exact (show False from w).elim
end
end MpS

/-! MpE8: what a loop walks. -/
namespace MpS
open PySem PySem.Spec PyProof.Rows L2

/-- an item: with w it may be a pair that was just laid -/
def ItV (w : Bool) (C : Cfg) (Fz : Addr → Prop) (H : Hp) (d : Mp.D) (v : V) : Prop := Val C Fz H d v ∨ (w = true ∧ ∃ ds p us, d = .tup ds ∧ v = .ref p ∧ H p = some (.tup us) ∧ ValL C Fz H ds us)
/-- what walks pairs -/
def wkIt : Mp.E → Bool
  | .zipE _ _ => true
  | .enumE _ => true
  | _ => false
/-- what is walked: ds the items, Sp the addresses it stands at, S what must hold of the heap -/
structure Src (w : Bool) (C : Cfg) (J : It) (ds : List Mp.D) (Sp : Addr → Prop) (S : (Addr → Prop) → Hp → Prop) : Prop where
  keep : ∀ Fz H Fz' H', S Fz H → (∀ a, Fz a → Fz' a) → Keep Fz H H' → (∀ a, Sp a → ∀ o, H a = some o → H' a = some o) → S Fz' H'
  dom : ∀ Fz H a, S Fz H → Sp a → ∃ o, H a = some o
  go : ∀ i Fz H, S Fz H → i < ds.length → J.go i H
  stop : ∀ i Fz H, S Fz H → ds.length ≤ i → J.stop i H
  yld : ∀ i Fz H x H' d, S Fz H → ds[i]? = some d → J.yld i H x H' → Same H H' ∧ ItV w C Fz H' d x
def tI (C : Cfg) (G : List Md) (sf : Mp.Sf) (W : WX) (fz : Bool) (it : Mp.E) : TI := fun σ H R =>
  ∃ F0 Fz Hr env As, BI C G F0 Fz Hr env σ H As ∧ Wg C (fun cls dx H' => W cls dx σ H') Fz H ((Mp.ev it sf env).bind Mp.items) fun ds =>
    ∀ J H' Fz' Sp S, Ext Fz H Fz' H' → Src (wkIt it) C J ds Sp S → S Fz' H' → (fz = true → ∀ a, Sp a → Fz' a ∨ ∃ o, Hr a = some o) → R J H'
/-- how a thing that is walked may stand -/
def itK (G : List Md) (fz : Bool) (e : Mp.E) : Kd → Prop := fun k => k = .rd 0 ∨ (k = .rd 1 ∧ (fz = false ∨ ∃ i, e = .nm i ∧ G[i]? = some (.bw 1)))

section
variable {C : Cfg} {G : List Md} {F0 Fz Fz' Fz1 : Addr → Prop} {Hr H H' H1 : Hp} {env : List Mp.D} {σ : L2.St} {As : Nat → List Addr} {E : XK} {kd ka : Kd} {Q : VK} {sf : Mp.Sf} {W : WX}
variable {X : Cx} {a b c tg : Expr} {a' b' c' : Mp.E} {pos : Pos} {fz : Bool}

theorem PI.imp {it : Expr} {t t' : TI} (h : PI X tg it t) (f : ∀ σ H R, t' σ H R → t σ H R) : PI X tg it t' := ⟨fun pins s σ H R I q => h.run pins s σ H R I (f σ H R q)⟩
/-- a list or a tuple -/
theorem pi_seq {K : PySem.W.Frag} (hK : K = X.K) {l : Expr} {tl : TE} (hl : PE X l tl) : PI X tg l (fun σ H R => tl σ H fun x H1 => ∃ a, x = .ref a ∧ (((∃ xs, SqL K H1 a xs) ∧ R (Itl K a) H1) ∨ ((∃ xs, SqT K H1 a xs) ∧ R (Itt K a) H1))) := by
  subst hK
  refine ⟨fun pins s σ H R I h => ?_⟩
  refine thn (hl.run pins s σ H _ I h) fun v s1 ⟨x, H1, I1, r1, q1⟩ => ?_
  obtain ⟨a, e, ⟨⟨xs, hq⟩, q⟩ | ⟨⟨xs, hq⟩, q⟩⟩ := q1
  · subst e
    cases r1
    obtain ⟨its, rv, p, hz⟩ := I1.list hq
    refine wpAny_pyIter_list p.isList ?_
    refine ⟨s1.heap.objs.size, [s1.heap.objs.size], _, _, H1, rfl, I1.kept (t' := s1.toks) fun b o e => Heap.get?_push_of_some _ e, turn_list a _, ⟨_, Heap.get?_push_size _ rfl, rfl, rfl⟩, fun b hb => ?_, q⟩
    have e : b = s1.heap.objs.size := by simpa using hb
    subst e
    exact I1.fpOk (Nat.le_refl _) (I1.hok.fresh (Nat.le_refl _))
  · subst e
    cases r1
    obtain ⟨its, rv, p, hz⟩ := I1.tuple hq
    refine wpAny_pyIter_tuple (show s1.heap.IsTuple a its.toArray from p) ?_
    refine ⟨s1.heap.objs.size, [s1.heap.objs.size], _, _, H1, rfl, I1.kept (t' := s1.toks) fun b o e => Heap.get?_push_of_some _ e, turn_tuple a _, ⟨_, Heap.get?_push_size _ rfl, rfl, rfl⟩, fun b hb => ?_, q⟩
    have e : b = s1.heap.objs.size := by simpa using hb
    subst e
    exact I1.fpOk (Nat.le_refl _) (I1.hok.fresh (Nat.le_refl _))
theorem pget {P : Mp.D → V → Prop} {ds : List Mp.D} {us : List V} (l : Paired P ds us) {i : Nat} {d : Mp.D} (h : ds[i]? = some d) : ∃ u, us[i]? = some u ∧ P d u := by
  induction l generalizing i with
  | nil => simp at h
  | cons h1 h2 ih =>
    cases i with
    | zero => simp at h; subst h; exact ⟨_, by simp, h1⟩
    | succ i => simpa using ih (by simpa using h)
theorem plt {P : Mp.D → V → Prop} {ds : List Mp.D} {us : List V} (l : Paired P ds us) {i : Nat} (h : i < ds.length) : ∃ u, us[i]? = some u := by
  obtain ⟨u, e, _⟩ := pget l (i := i) (d := ds[i]) (by simp [h])
  exact ⟨u, e⟩
theorem src_lst {w : Bool} {K : PySem.W.Frag} {p : Addr} {ds : List Mp.D} : Src w C (Itl K p) ds (· = p) (fun Fz H => ∃ us, H p = some (.lst us) ∧ ValL C Fz H ds us) where
  keep := fun Fz H Fz' H' ⟨us, h, l⟩ hs k hp => ⟨us, hp p rfl _ h, ValL.keep hs k ds us l⟩
  dom := fun Fz H a ⟨us, h, l⟩ e => by subst e; exact ⟨_, h⟩
  go := fun i Fz H ⟨us, h, l⟩ hi => let ⟨u, e⟩ := plt (pvals l) hi; ⟨us, u, SqL.of h, e⟩
  stop := fun i Fz H ⟨us, h, l⟩ hi => ⟨us, SqL.of h, by rw [← l.length]; exact hi⟩
  yld := fun i Fz H x H' d ⟨us, h, l⟩ hd ⟨e, y⟩ => by
    subst e
    obtain ⟨u, e1, hv⟩ := pget (pvals l) hd
    have := y us (SqL.of h)
    rw [e1] at this
    cases this
    exact ⟨Same.refl _, .inl hv⟩
theorem src_tup {w : Bool} {K : PySem.W.Frag} (hK : K = C.K) {p : Addr} {ds : List Mp.D} : Src w C (Itt K p) ds (fun _ => False) (fun Fz H => ∃ us, TupAt C H p us ∧ ValL C Fz H ds us) where
  keep := fun Fz H Fz' H' ⟨us, h, l⟩ hs k hp => ⟨us, k.tup h, ValL.keep hs k ds us l⟩
  dom := fun Fz H a _ e => e.elim
  go := fun i Fz H ⟨us, h, l⟩ hi => let ⟨u, e⟩ := plt (pvals l) hi; ⟨us, u, by rw [hK]; exact h.sq, e⟩
  stop := fun i Fz H ⟨us, h, l⟩ hi => ⟨us, by rw [hK]; exact h.sq, by rw [← l.length]; exact hi⟩
  yld := fun i Fz H x H' d ⟨us, h, l⟩ hd ⟨e, y⟩ => by
    subst e
    obtain ⟨u, e1, hv⟩ := pget (pvals l) hd
    have := y us (by rw [hK]; exact h.sq)
    rw [e1] at this
    cases this
    exact ⟨Same.refl _, .inl hv⟩
/-- where a list that is walked stands -/
theorem itK_at {e : Mp.E} {k : Kd} (hk : itK G fz e k) {ds : List Mp.D} {v : V} {A : List Addr} (b : BI C G F0 Fz Hr env σ H As) (ee : Mp.ev e sf env = .ok (.lst ds)) (ex : Ext Fz H Fz1 H1) (r : Rs C k Fz1 H1 (.lst ds) v A)
    (hv : k = .rd 1 → ∀ i m d, e = .nm i → G[i]? = some m → env[i]? = some d → σ[i]? = some (some v)) :
    ∃ p us, v = .ref p ∧ H1 p = some (.lst us) ∧ ValL C Fz1 H1 ds us ∧ (fz = true → Fz1 p ∨ ∃ o, Hr p = some o) := by
  rcases hk with rfl | ⟨rfl, hf⟩
  · have r : Val C Fz1 H1 (.lst ds) v := r.1
    simp only [Val] at r
    obtain ⟨p, us, rfl, f, t, l⟩ := r
    exact ⟨p, us, rfl, t, l, fun _ => .inl f⟩
  · obtain ⟨p, us, rfl, t, l⟩ := Rd.lst r.1
    refine ⟨p, us, rfl, t, valL_iff.mpr l, fun hz => ?_⟩
    rcases hf with hf | ⟨i, rfl, hm⟩
    · rw [hz] at hf; cases hf
    · have e1 := (getE_ok (show Mp.getE env i = .ok (.lst ds) from ee)).1
      have es := hv rfl i _ _ rfl hm e1
      rcases b.slot i _ _ _ hm e1 es with ⟨q, _⟩ | ⟨w, q, q2⟩
      · cases q
      · cases q
        obtain ⟨p', us', ep, t', _⟩ := Rd.lst q2.1
        cases ep
        exact .inr ⟨_, t'⟩
theorem items_exc {x d : Mp.D} : Mp.items x ≠ .exc d := by cases x <;> simp [Mp.items]
/-- any expression -/
theorem i_of (hK : X.K = C.K) {e : Expr} {e' : Mp.E} {k : Kd} (hk : k = .rd 0 ∨ (k = .rd 1 ∧ fz = false)) (he : PE X e (tE C G sf W k e')) : PI X tg e (tI C G sf W fz e') := by
  refine PI.imp (pi_seq (K := X.K) rfl he) fun σ H R ⟨F0, Fz, Hr, env, As, b, w⟩ => ?_
  refine ⟨F0, Fz, Hr, env, As, b, (Wg.bind w).imp fun x ex q v H1 Fz1 A e1 r1 n1 f1 => ?_⟩
  cases x with
  | lst ds =>
    have q : ∀ J H' Fz' Sp S, Ext Fz H Fz' H' → Src _ C J ds Sp S → S Fz' H' → (fz = true → ∀ a, Sp a → Fz' a ∨ ∃ o, Hr a = some o) → R J H' := q
    have hk' : itK G fz e' k := by
      rcases hk with h | ⟨h, h2⟩
      · exact .inl h
      · exact .inr ⟨h, .inl h2⟩
    have key : ∃ p us, v = .ref p ∧ H1 p = some (.lst us) ∧ ValL C Fz1 H1 ds us ∧ (fz = true → Fz1 p ∨ ∃ o, Hr p = some o) := by
      rcases hk with rfl | ⟨rfl, hf⟩
      · have r : Val C Fz1 H1 (.lst ds) v := r1.1
        simp only [Val] at r
        obtain ⟨p, us, rfl, f, t, l⟩ := r
        exact ⟨p, us, rfl, t, l, fun _ => .inl f⟩
      · obtain ⟨p, us, rfl, t, l⟩ := Rd.lst r1.1
        exact ⟨p, us, rfl, t, valL_iff.mpr l, fun hz => by rw [hf] at hz; cases hz⟩
    obtain ⟨p, us, rfl, t, l, hz⟩ := key
    exact ⟨p, rfl, .inl ⟨⟨us, SqL.of t⟩, q _ H1 Fz1 _ _ e1 src_lst ⟨us, t, l⟩ fun hf a ha => by rw [ha]; exact hz hf⟩⟩
  | tup ds =>
    have q : ∀ J H' Fz' Sp S, Ext Fz H Fz' H' → Src _ C J ds Sp S → S Fz' H' → (fz = true → ∀ a, Sp a → Fz' a ∨ ∃ o, Hr a = some o) → R J H' := q
    have r : Val C Fz1 H1 (.tup ds) v := by rcases hk with rfl | ⟨rfl, _⟩ <;> exact r1.1
    simp only [Val] at r
    obtain ⟨p, us, rfl, t, l⟩ := r
    exact ⟨p, rfl, .inr ⟨⟨us, by rw [hK]; exact t.sq⟩, q _ H1 Fz1 _ _ e1 (src_tup hK) ⟨us, t, l⟩ fun hf a ha => ha.elim⟩⟩
  | _ => exact (show False from q).elim
/-- a parameter that is lent -/
theorem i_nm (hK : X.K = C.K) {i : Nat} {x : Str} (hN : X.N[i]? = some x) (hv : Vis X.env.scope x) (hd : (x == ("__debug__" : Str)) = false) (hcd : (x == ("__classdict__" : Str)) = false) (hm : G[i]? = some (.bw 1)) :
    PI X tg (.Name x pos) (tI C G sf W fz (.nm i)) := by
  refine PI.imp (pi_seq (K := X.K) rfl (pe_var hN hv hd hcd)) fun σ H R ⟨F0, Fz, Hr, env, As, b, w⟩ => ?_
  have w : Wg C _ Fz H ((Mp.getE env i).bind Mp.items) _ := w
  cases h : Mp.getE env i with
  | bad => rw [h] at w; exact (show False from w).elim
  | exc d => exact absurd h getE_exc
  | ok d =>
    rw [h] at w
    obtain ⟨e1, e2⟩ := getE_ok h
    obtain ⟨v, ev, q⟩ := b.look hm e1 e2
    refine ⟨v, ev, ?_⟩
    have q : Rd C Fz H 1 d v := q
    cases d with
    | lst ds =>
      have w : ∀ J H' Fz' Sp S, Ext Fz H Fz' H' → Src _ C J ds Sp S → S Fz' H' → (fz = true → ∀ a, Sp a → Fz' a ∨ ∃ o, Hr a = some o) → R J H' := w
      obtain ⟨p, us, rfl, t, l⟩ := q.lst
      refine ⟨p, rfl, .inl ⟨⟨us, SqL.of t⟩, w _ H Fz _ _ (.refl b.ext.trk) src_lst ⟨us, t, valL_iff.mpr l⟩ fun hf a ha => ?_⟩⟩
      rcases b.slot i _ _ _ hm e1 ev with ⟨q, _⟩ | ⟨w, q, q2⟩
      · cases q
      · cases q
        obtain ⟨p', us', ep, t', _⟩ := Rd.lst q2.1
        cases ep
        exact .inr ⟨_, by rw [ha]; exact t'⟩
    | tup ds =>
      have w : ∀ J H' Fz' Sp S, Ext Fz H Fz' H' → Src _ C J ds Sp S → S Fz' H' → (fz = true → ∀ a, Sp a → Fz' a ∨ ∃ o, Hr a = some o) → R J H' := w
      obtain ⟨p, us, rfl, t, l⟩ := q.tup
      exact ⟨p, rfl, .inr ⟨⟨us, by rw [hK]; exact t.sq⟩, w _ H Fz _ _ (.refl b.ext.trk) (src_tup hK) ⟨us, t, l⟩ fun hf a ha => ha.elim⟩⟩
    | _ => exact (show False from w).elim
theorem rngL_get {i j : Int} {k : Nat} {d : Mp.D} (h : (Mp.rngL i j)[k]? = some d) : d = .int (i + (k : Int)) := by
  unfold Mp.rngL at h
  rw [List.getElem?_map] at h
  obtain ⟨m, h1, h2⟩ := Option.map_eq_some_iff.mp h
  obtain ⟨h3, h4⟩ := List.getElem?_eq_some_iff.mp h1
  simp at h4
  subst h4
  exact h2.symm
theorem src_rng {w : Bool} {i j : Int} : Src w C (Itr i (j - i).toNat) (Mp.rngL i j) (fun _ => False) (fun _ _ => True) where
  keep := fun _ _ _ _ _ _ _ _ => True.intro
  dom := fun Fz H a _ e => e.elim
  go := fun k Fz H _ hk => by
    have : k < (j - i).toNat := by simpa [Mp.rngL] using hk
    exact this
  stop := fun k Fz H _ hk => by
    have : (j - i).toNat ≤ k := by simpa [Mp.rngL] using hk
    exact this
  yld := fun k Fz H x H' d _ hd ⟨e1, e2⟩ => by
    subst e1 e2
    rw [rngL_get hd]
    exact ⟨Same.refl _, .inl (by simp only [Val])⟩
theorem rngD_exc {x y d : Mp.D} : Mp.rngD x y ≠ .exc d := by
  unfold Mp.rngD
  split
  · split <;> simp
  · simp
theorem i_rng1 (hg : Gl X "range") (hm : X.mg "range" = none) (hn : NoSt a) {p : Pos} (ha : PE X a (tE C G sf W (.rd 9) a')) : PI X tg (.Call (.Name "range" p) [a] [] pos) (tI C G sf W fz (.rng (.cst (.int 0)) a')) := by
  refine PI.imp (pi_range1 hg hm (pa_cons ha pa_nil (hn [] X.env)) (hn [] X.env)) fun σ H R ⟨F0, Fz, Hr, env, As, b, w⟩ => ⟨F0, Fz, Hr, env, As, b, ?_⟩
  have bb : ∀ {α β γ : Type} (r : Mp.R α) (f : α → Mp.R β) (g : β → Mp.R γ), (r.bind f).bind g = r.bind fun x => (f x).bind g := fun r f g => by cases r <;> rfl
  simp only [Mp.ev, bb, Mp.R.bind_ok] at w
  refine (Wg.bind w).imp fun x ex q v H1 Fz1 A e1 r1 n1 f1 => ?_
  cases x <;> try exact (show False from q).elim
  rename_i j
  obtain rfl := Rd.int r1.1
  simp only [Mp.rngD] at q
  split at q
  · rename_i hc
    have q : ∀ J H' Fz' Sp S, Ext Fz H Fz' H' → Src _ C J (Mp.rngL 0 j) Sp S → S Fz' H' → (fz = true → ∀ a, Sp a → Fz' a ∨ ∃ o, Hr a = some o) → R J H' := q
    have s := src_rng (w := false) (C := C) (i := 0) (j := j)
    rw [Int.sub_zero] at s
    exact ⟨j, rfl, by omega, by omega, q _ H1 Fz1 _ _ e1 s True.intro fun _ a ha => ha.elim⟩
  · exact (show False from q).elim
theorem i_rng2 (hg : Gl X "range") (hm : X.mg "range" = none) (hn : NoSt a) (hn2 : NoSt b) {p : Pos} (ha : PE X a (tE C G sf W (.rd 9) a')) (hb : PE X b (tE C G sf W (.rd 9) b')) : PI X tg (.Call (.Name "range" p) [a, b] [] pos) (tI C G sf W fz (.rng a' b')) := by
  refine PI.imp (pi_range2 hg hm (pa_cons ha (pa_cons hb pa_nil (hn2 [] X.env)) (hn [b] X.env)) (by rw [hn [b] X.env, hn2 [] X.env]; rfl) (hn2 [] X.env)) fun σ H R ⟨F0, Fz, Hr, env, As, b, w⟩ => ⟨F0, Fz, Hr, env, As, b, ?_⟩
  have bb : ∀ {α β γ : Type} (r : Mp.R α) (f : α → Mp.R β) (g : β → Mp.R γ), (r.bind f).bind g = r.bind fun x => (f x).bind g := fun r f g => by cases r <;> rfl
  simp only [Mp.ev, bb] at w
  refine (Wg.bind w).imp fun x ex q v H1 Fz1 A e1 r1 n1 f1 => ⟨F0, Fz1, Hr, env, As, b.grow e1, ?_⟩
  cases h2 : Mp.ev b' sf env with
  | bad => rw [h2] at q; exact (show False from q).elim
  | exc z => rw [h2] at q; exact XW.mono e1 q
  | ok y =>
    rw [h2] at q
    intro u H2 Fz2 B e2 r2 n2 f2
    cases x <;> cases y <;> try exact (show False from q).elim
    rename_i i j
    obtain rfl := Rd.int r1.1
    obtain rfl := Rd.int r2.1
    simp only [Mp.R.bind_ok, Mp.rngD] at q
    split at q
    · rename_i hc
      have q : ∀ J H' Fz' Sp S, Ext Fz H Fz' H' → Src _ C J (Mp.rngL i j) Sp S → S Fz' H' → (fz = true → ∀ a, Sp a → Fz' a ∨ ∃ o, Hr a = some o) → R J H' := q
      exact ⟨i, j, rfl, ⟨by omega, by omega, by omega, by omega⟩, q _ H2 Fz2 _ _ (e1.trans e2) src_rng True.intro fun _ a ha => ha.elim⟩
    · exact (show False from q).elim
theorem same_new {p : Addr} {o : HO} (hp : H p = none) : Same H (upd H p o) := fun b u e => by rw [upd_ne (ne_of_none e hp)]; exact e
theorem val_pair {p : Addr} {d e : Mp.D} {u v : V} (hp : H p = none) (h1 : Val C Fz H d u) (h2 : Val C Fz H e v) : ItV true C Fz (upd H p (.tup [u, v])) (.tup [d, e]) (.ref p) := by
  have k := Keep.of (Fz := Fz) (same_new (o := .tup [u, v]) hp)
  refine .inr ⟨rfl, _, p, [u, v], rfl, rfl, upd_same, ?_⟩
  simp only [ValL]
  exact ⟨u, [v], rfl, Val.keep (fun _ h => h) k _ _ h1, v, [], rfl, Val.keep (fun _ h => h) k _ _ h2, rfl⟩
/-- where a thing that is walked may stand -/
def SpOk (fz : Bool) (Fz : Addr → Prop) (Hr : Hp) (p : Addr) : Prop := fz = true → Fz p ∨ ∃ o, Hr p = some o
theorem src_zipL {K : PySem.W.Frag} {p q : Addr} {xs ys : List Mp.D} : Src true C (Itz K p q) ((xs.zip ys).map fun z => .tup [z.1, z.2]) (fun a => a = p ∨ a = q) (fun Fz H => ∃ us vs, H p = some (.lst us) ∧ H q = some (.lst vs) ∧ ValL C Fz H xs us ∧ ValL C Fz H ys vs) where
  keep := fun Fz H Fz' H' ⟨us, vs, h, h', l, l'⟩ hs k hp => ⟨us, vs, hp p (.inl rfl) _ h, hp q (.inr rfl) _ h', ValL.keep hs k _ us l, ValL.keep hs k _ vs l'⟩
  dom := fun Fz H a ⟨us, vs, h, h', l, l'⟩ e => by rcases e with rfl | rfl; exact ⟨_, h⟩; exact ⟨_, h'⟩
  go := fun i Fz H ⟨us, vs, h, h', l, l'⟩ hi => by
    have hi : i < min xs.length ys.length := by simpa using hi
    obtain ⟨u, e⟩ := plt (pvals l) (i := i) (by omega)
    obtain ⟨v, e'⟩ := plt (pvals l') (i := i) (by omega)
    exact ⟨us, vs, u, v, SqL.of h, SqL.of h', e, e'⟩
  stop := fun i Fz H ⟨us, vs, h, h', l, l'⟩ hi => by
    have hi : min xs.length ys.length ≤ i := by simpa using hi
    refine ⟨us, vs, SqL.of h, SqL.of h', ?_⟩
    rw [← l.length, ← l'.length]
    omega
  yld := fun i Fz H x H' d ⟨us, vs, h, h', l, l'⟩ hd ⟨T, x1, y1, e, hT, e', f, g⟩ => by
    subst e e'
    rw [List.getElem?_map] at hd
    obtain ⟨z, hz, rfl⟩ := Option.map_eq_some_iff.mp hd
    obtain ⟨hz1, hz2⟩ := List.getElem?_zip_eq_some.mp hz
    obtain ⟨u, e1, q1⟩ := pget (pvals l) hz1
    obtain ⟨v, e2, q2⟩ := pget (pvals l') hz2
    have f := f us (SqL.of h)
    have g := g vs (SqL.of h')
    rw [e1] at f
    rw [e2] at g
    cases f
    cases g
    exact ⟨same_new hT, val_pair hT q1 q2⟩
theorem src_zipT {K : PySem.W.Frag} (hK : K = C.K) {p q : Addr} {xs ys : List Mp.D} : Src true C (RZ.ItzT K p q) ((xs.zip ys).map fun z => .tup [z.1, z.2]) (fun _ => False) (fun Fz H => ∃ us vs, TupAt C H p us ∧ TupAt C H q vs ∧ ValL C Fz H xs us ∧ ValL C Fz H ys vs) where
  keep := fun Fz H Fz' H' ⟨us, vs, h, h', l, l'⟩ hs k hp => ⟨us, vs, k.tup h, k.tup h', ValL.keep hs k _ us l, ValL.keep hs k _ vs l'⟩
  dom := fun Fz H a _ e => e.elim
  go := fun i Fz H ⟨us, vs, h, h', l, l'⟩ hi => by
    have hi : i < min xs.length ys.length := by simpa using hi
    obtain ⟨u, e⟩ := plt (pvals l) (i := i) (by omega)
    obtain ⟨v, e'⟩ := plt (pvals l') (i := i) (by omega)
    exact ⟨us, vs, u, v, by rw [hK]; exact h.sq, by rw [hK]; exact h'.sq, e, e'⟩
  stop := fun i Fz H ⟨us, vs, h, h', l, l'⟩ hi => by
    have hi : min xs.length ys.length ≤ i := by simpa using hi
    refine ⟨us, vs, by rw [hK]; exact h.sq, by rw [hK]; exact h'.sq, ?_⟩
    rw [← l.length, ← l'.length]
    omega
  yld := fun i Fz H x H' d ⟨us, vs, h, h', l, l'⟩ hd ⟨T, x1, y1, e, hT, e', f, g⟩ => by
    subst e e'
    rw [List.getElem?_map] at hd
    obtain ⟨z, hz, rfl⟩ := Option.map_eq_some_iff.mp hd
    obtain ⟨hz1, hz2⟩ := List.getElem?_zip_eq_some.mp hz
    obtain ⟨u, e1, q1⟩ := pget (pvals l) hz1
    obtain ⟨v, e2, q2⟩ := pget (pvals l') hz2
    have f := f us (by rw [hK]; exact h.sq)
    have g := g vs (by rw [hK]; exact h'.sq)
    rw [e1] at f
    rw [e2] at g
    cases f
    cases g
    exact ⟨same_new hT, val_pair hT q1 q2⟩
theorem enum_get : ∀ {xs : List Mp.D} {k i : Nat} {d : Mp.D}, (Mp.enumFrom k xs)[i]? = some d → ∃ x, xs[i]? = some x ∧ d = .tup [.int (k + i : Nat), x]
  | [], _, _, _, h => by simp [Mp.enumFrom] at h
  | x :: xs, k, 0, d, h => by simp [Mp.enumFrom] at h; exact ⟨x, rfl, by subst h; simp⟩
  | x :: xs, k, i + 1, d, h => by
    simp only [Mp.enumFrom, List.getElem?_cons_succ] at h
    obtain ⟨y, e, rfl⟩ := enum_get h
    exact ⟨y, by simpa using e, by rw [show k + 1 + i = k + (i + 1) by omega]⟩
theorem enum_len : ∀ (xs : List Mp.D) (k : Nat), (Mp.enumFrom k xs).length = xs.length
  | [], _ => rfl
  | x :: xs, k => by simp [Mp.enumFrom, enum_len xs]
theorem src_enum {K : PySem.W.Frag} {p : Addr} {xs : List Mp.D} : Src true C (Ite K p) (Mp.enumFrom 0 xs) (· = p) (fun Fz H => ∃ us, H p = some (.lst us) ∧ ValL C Fz H xs us) where
  keep := fun Fz H Fz' H' ⟨us, h, l⟩ hs k hp => ⟨us, hp p rfl _ h, ValL.keep hs k xs us l⟩
  dom := fun Fz H a ⟨us, h, l⟩ e => by subst e; exact ⟨_, h⟩
  go := fun i Fz H ⟨us, h, l⟩ hi => let ⟨u, e⟩ := plt (pvals l) (by rw [enum_len] at hi; exact hi); ⟨us, u, SqL.of h, e⟩
  stop := fun i Fz H ⟨us, h, l⟩ hi => ⟨us, SqL.of h, by rw [← l.length]; rw [enum_len] at hi; exact hi⟩
  yld := fun i Fz H x H' d ⟨us, h, l⟩ hd ⟨T, y, e, hT, e', f⟩ => by
    subst e e'
    obtain ⟨z, hz, rfl⟩ := enum_get hd
    obtain ⟨u, e1, q1⟩ := pget (pvals l) hz
    have f := f us (SqL.of h)
    rw [e1] at f
    cases f
    rw [Nat.zero_add]
    exact ⟨same_new hT, val_pair hT (by simp only [Val]) q1⟩
theorem rev_get {xs : List Mp.D} {i : Nat} {d : Mp.D} (h : xs.reverse[i]? = some d) : i < xs.length ∧ xs[xs.length - 1 - i]? = some d := by
  have hi : i < xs.length := by
    obtain ⟨h1, _⟩ := List.getElem?_eq_some_iff.mp h
    simpa using h1
  rw [List.getElem?_reverse hi] at h
  exact ⟨hi, h⟩
theorem src_revL {w : Bool} {K : PySem.W.Frag} {p : Addr} {xs : List Mp.D} : Src w C (Itv K p xs.length) xs.reverse (· = p) (fun Fz H => ∃ us, H p = some (.lst us) ∧ ValL C Fz H xs us) where
  keep := fun Fz H Fz' H' ⟨us, h, l⟩ hs k hp => ⟨us, hp p rfl _ h, ValL.keep hs k xs us l⟩
  dom := fun Fz H a ⟨us, h, l⟩ e => by subst e; exact ⟨_, h⟩
  go := fun i Fz H ⟨us, h, l⟩ hi => by
    rw [List.length_reverse] at hi
    obtain ⟨u, e⟩ := plt (pvals l) (i := xs.length - 1 - i) (by omega)
    exact ⟨hi, us, u, SqL.of h, e⟩
  stop := fun i Fz H ⟨us, h, l⟩ hi => by rw [List.length_reverse] at hi; exact hi
  yld := fun i Fz H x H' d ⟨us, h, l⟩ hd ⟨e, y⟩ => by
    subst e
    obtain ⟨_, hd⟩ := rev_get hd
    obtain ⟨u, e1, hv⟩ := pget (pvals l) hd
    have := y us (SqL.of h)
    rw [e1] at this
    cases this
    exact ⟨Same.refl _, .inl hv⟩
theorem src_revT {w : Bool} {K : PySem.W.Frag} (hK : K = C.K) {p : Addr} {xs : List Mp.D} : Src w C (RT.ItvT K p xs.length) xs.reverse (fun _ => False) (fun Fz H => ∃ us, TupAt C H p us ∧ ValL C Fz H xs us) where
  keep := fun Fz H Fz' H' ⟨us, h, l⟩ hs k hp => ⟨us, k.tup h, ValL.keep hs k xs us l⟩
  dom := fun Fz H a _ e => e.elim
  go := fun i Fz H ⟨us, h, l⟩ hi => by
    rw [List.length_reverse] at hi
    obtain ⟨u, e⟩ := plt (pvals l) (i := xs.length - 1 - i) (by omega)
    exact ⟨hi, us, u, by rw [hK]; exact h.sq, e⟩
  stop := fun i Fz H ⟨us, h, l⟩ hi => by rw [List.length_reverse] at hi; exact hi
  yld := fun i Fz H x H' d ⟨us, h, l⟩ hd ⟨e, y⟩ => by
    subst e
    obtain ⟨_, hd⟩ := rev_get hd
    obtain ⟨u, e1, hv⟩ := pget (pvals l) hd
    have := y us (by rw [hK]; exact h.sq)
    rw [e1] at this
    cases this
    exact ⟨Same.refl _, .inl hv⟩
/-- a list under such a kind -/
theorem kI_lst {ds : List Mp.D} {v : V} {A : List Addr} (r : Rs C (kI fz) Fz H (.lst ds) v A) : ∃ p us, v = .ref p ∧ H p = some (.lst us) ∧ ValL C Fz H ds us ∧ (fz = true → Fz p) := by
  cases fz with
  | true =>
    have r : Val C Fz H (.lst ds) v := r.1
    simp only [Val] at r
    obtain ⟨p, us, e, f, t, l⟩ := r
    exact ⟨p, us, e, t, l, fun _ => f⟩
  | false =>
    obtain ⟨p, us, e, t, l⟩ := Rd.lst (show Rd C Fz H 1 (.lst ds) v from r.1)
    exact ⟨p, us, e, t, valL_iff.mpr l, fun h => by cases h⟩
theorem kI_tup {ds : List Mp.D} {v : V} {A : List Addr} (r : Rs C (kI fz) Fz H (.tup ds) v A) : ∃ p us, v = .ref p ∧ TupAt C H p us ∧ ValL C Fz H ds us := by
  cases fz with
  | true => exact Rd.tup (show Rd C Fz H 0 (.tup ds) v from r.1)
  | false => exact Rd.tup (show Rd C Fz H 1 (.tup ds) v from r.1)
theorem kI_grow {d : Mp.D} {v : V} {A : List Addr} {k : Kd} (e : Ext Fz H Fz1 H1) (r : Rs C k Fz H d v A) : Rs C k Fz1 H1 d v A := Rs.grow e r
theorem i_zip (hK : X.K = C.K) {elts : List Expr} {kk : Nat} {tpos : Pos} (hg : Gl X "zip") (hm : X.mg "zip" = none) (hn : NoSt a) (hn2 : NoSt b) {p : Pos} (ha : PE X a (tE C G sf W (kI fz) a')) (hb : PE X b (tE C G sf W (kI fz) b')) :
    PI X (.Tuple elts kk tpos) (.Call (.Name "zip" p) [a, b] [] pos) (tI C G sf W fz (.zipE a' b')) := by
  refine PI.imp (RZ.pi_zipA hg hm (pa_cons ha (pa_cons hb pa_nil (hn2 [] X.env)) (hn [b] X.env)) (hn [b] X.env) (nost_any (by simpa using hn2))) fun σ H R ⟨F0, Fz, Hr, env, As, b, w⟩ => ⟨F0, Fz, Hr, env, As, b, ?_⟩
  have bb : ∀ {α β γ : Type} (r : Mp.R α) (f : α → Mp.R β) (g : β → Mp.R γ), (r.bind f).bind g = r.bind fun x => (f x).bind g := fun r f g => by cases r <;> rfl
  simp only [Mp.ev, bb] at w
  refine (Wg.bind w).imp fun x ex q v H1 Fz1 A e1 r1 n1 f1 => ⟨F0, Fz1, Hr, env, As, b.grow e1, ?_⟩
  cases h2 : Mp.ev b' sf env with
  | bad => rw [h2] at q; exact (show False from q).elim
  | exc z => rw [h2] at q; exact XW.mono e1 q
  | ok y =>
    rw [h2] at q
    intro u H2 Fz2 B e2 r2 n2 f2
    replace r1 := Rs.grow e2 r1
    cases x <;> cases y <;> try exact (show False from q).elim
    case tup.tup xs ys =>
      have q : ∀ J H' Fz' Sp S, Ext Fz H Fz' H' → Src _ C J ((xs.zip ys).map fun z => .tup [z.1, z.2]) Sp S → S Fz' H' → (fz = true → ∀ a, Sp a → Fz' a ∨ ∃ o, Hr a = some o) → R J H' := q
      obtain ⟨p, us, rfl, h1, l1⟩ := kI_tup r1
      obtain ⟨p2, vs, rfl, h2, l2⟩ := kI_tup r2
      exact ⟨p, p2, us, vs, rfl, .inr ⟨by rw [hK]; exact h1.sq, by rw [hK]; exact h2.sq, q _ H2 Fz2 _ _ (e1.trans e2) (src_zipT hK) ⟨us, vs, h1, h2, l1, l2⟩ fun _ a h => h.elim⟩⟩
    case lst.lst xs ys =>
      have q : ∀ J H' Fz' Sp S, Ext Fz H Fz' H' → Src _ C J ((xs.zip ys).map fun z => .tup [z.1, z.2]) Sp S → S Fz' H' → (fz = true → ∀ a, Sp a → Fz' a ∨ ∃ o, Hr a = some o) → R J H' := q
      obtain ⟨p, us, rfl, h1, l1, g1⟩ := kI_lst r1
      obtain ⟨p2, vs, rfl, h2, l2, g2⟩ := kI_lst r2
      exact ⟨p, p2, us, vs, rfl, .inl ⟨SqL.of h1, SqL.of h2, q _ H2 Fz2 _ _ (e1.trans e2) src_zipL ⟨us, vs, h1, h2, l1, l2⟩ fun hf a h => by
        rcases h with rfl | rfl
        · exact .inl (g1 hf)
        · exact .inl (g2 hf)⟩⟩
theorem i_enum {elts : List Expr} {kk : Nat} {tpos : Pos} (hg : Gl X "enumerate") (hm : X.mg "enumerate" = none) (hn : NoSt a) {p : Pos} (ha : PE X a (tE C G sf W (kI fz) a')) :
    PI X (.Tuple elts kk tpos) (.Call (.Name "enumerate" p) [a] [] pos) (tI C G sf W fz (.enumE a')) := by
  refine PI.imp (pi_enum hg hm (pa_cons ha pa_nil (hn [] X.env)) (hn [] X.env)) fun σ H R ⟨F0, Fz, Hr, env, As, b, w⟩ => ⟨F0, Fz, Hr, env, As, b, ?_⟩
  have bb : ∀ {α β γ : Type} (r : Mp.R α) (f : α → Mp.R β) (g : β → Mp.R γ), (r.bind f).bind g = r.bind fun x => (f x).bind g := fun r f g => by cases r <;> rfl
  simp only [Mp.ev, bb] at w
  refine (Wg.bind w).imp fun x ex q v H1 Fz1 A e1 r1 n1 f1 => ?_
  cases x <;> try exact (show False from q).elim
  rename_i xs
  have q : ∀ J H' Fz' Sp S, Ext Fz H Fz' H' → Src _ C J (Mp.enumFrom 0 xs) Sp S → S Fz' H' → (fz = true → ∀ a, Sp a → Fz' a ∨ ∃ o, Hr a = some o) → R J H' := q
  obtain ⟨p, us, rfl, h1, l1, g1⟩ := kI_lst r1
  exact ⟨p, us, rfl, SqL.of h1, q _ H1 Fz1 _ _ e1 src_enum ⟨us, h1, l1⟩ fun hf a h => by subst h; exact .inl (g1 hf)⟩
theorem i_rev (hK : X.K = C.K) (hg : Gl X "reversed") (hm : X.mg "reversed" = none) (hn : NoSt a) {p : Pos} (ha : PE X a (tE C G sf W (kI fz) a')) :
    PI X tg (.Call (.Name "reversed" p) [a] [] pos) (tI C G sf W fz (.revE a')) := by
  refine PI.imp (RT.pi_revA hg hm ha (hn [] X.env)) fun σ H R ⟨F0, Fz, Hr, env, As, b, w⟩ => ⟨F0, Fz, Hr, env, As, b, ?_⟩
  have bb : ∀ {α β γ : Type} (r : Mp.R α) (f : α → Mp.R β) (g : β → Mp.R γ), (r.bind f).bind g = r.bind fun x => (f x).bind g := fun r f g => by cases r <;> rfl
  simp only [Mp.ev, bb] at w
  refine (Wg.bind w).imp fun x ex q v H1 Fz1 A e1 r1 n1 f1 => ?_
  cases x <;> try exact (show False from q).elim
  case tup xs =>
    have q : ∀ J H' Fz' Sp S, Ext Fz H Fz' H' → Src _ C J xs.reverse Sp S → S Fz' H' → (fz = true → ∀ a, Sp a → Fz' a ∨ ∃ o, Hr a = some o) → R J H' := q
    obtain ⟨p, us, rfl, h1, l1⟩ := kI_tup r1
    refine ⟨p, us, rfl, .inr ⟨by rw [hK]; exact h1.sq, ?_⟩⟩
    rw [← l1.length]
    exact q _ H1 Fz1 _ _ e1 (src_revT hK) ⟨us, h1, l1⟩ fun _ a h => h.elim
  case lst xs =>
    have q : ∀ J H' Fz' Sp S, Ext Fz H Fz' H' → Src _ C J xs.reverse Sp S → S Fz' H' → (fz = true → ∀ a, Sp a → Fz' a ∨ ∃ o, Hr a = some o) → R J H' := q
    obtain ⟨p, us, rfl, h1, l1, g1⟩ := kI_lst r1
    refine ⟨p, us, rfl, .inl ⟨SqL.of h1, ?_⟩⟩
    rw [← l1.length]
    exact q _ H1 Fz1 _ _ e1 src_revL ⟨us, h1, l1⟩ fun hf a h => by subst h; exact .inl (g1 hf)
end
end MpS

/-! MpT: targets; a comprehension's block. -/
namespace MpS
open PySem PySem.Spec PyProof.Rows L2

/-- names that are assigned to, with their places -/
inductive TgOk (X : Cx) : List Str → List Nat → Prop where
  | nil : TgOk X [] []
  | cons {x : Str} {i : Nat} {xs : List Str} {is : List Nat} (hi : X.N[i]? = some x) (hx : Loc X.env.scope x) (hf : X.fn x = true ∨ X.env.scope.names.lookup x = some .local) (t : TgOk X xs is) : TgOk X (x :: xs) (i :: is)
def gNs : List Nat → TGs
  | [] => gNil
  | i :: is => gCons (gName i) (gNs is)
def gT (K : PySem.W.Frag) : List Nat → TG
  | [i] => gName i
  | is => gTup K is.length (gNs is)

theorem nmsOf_names : ∀ {es : List Expr} {xs : List Str}, nmsOf es = some xs → ∃ ps : List Pos, ps.length = xs.length ∧ es = (xs.zip ps).map fun q => Expr.Name q.1 q.2
  | [], xs, h => by cases h; exact ⟨[], rfl, rfl⟩
  | e :: es, xs, h => by
    unfold nmsOf at h
    cases e <;> try (simp [nmOf] at h; done)
    rename_i x p
    simp only [nmOf] at h
    cases q : nmsOf es with
    | none => rw [q] at h; cases h
    | some ys =>
      rw [q] at h
      cases h
      obtain ⟨ps, hl, rfl⟩ := nmsOf_names q
      exact ⟨p :: ps, by simp [hl], by simp⟩
section
variable {X : Cx}
theorem each_names (env : Env) : ∀ (l : List (Str × Pos)), assignEach (l.map fun q => Expr.Name q.1 q.2) env = l.map fun q => (false, assign (Expr.Name q.1 q.2) env)
  | [] => rfl
  | q :: l => by
    simp only [List.map_cons, assignEach, each_names env l]
theorem pgs_of (hN : X.N.Nodup) : ∀ {xs : List Str} {is : List Nat} {ps : List Pos}, ps.length = xs.length → TgOk X xs is → PGs X ((xs.zip ps).map fun q => Expr.Name q.1 q.2) (gNs is)
  | _, _, ps, hl, .nil => by
    have : (([] : List Str).zip ps).map (fun q => Expr.Name q.1 q.2) = [] := by simp
    rw [this]
    exact pgs_nil
  | _, _, [], hl, .cons _ _ _ _ => by simp at hl
  | _, _, p :: ps, hl, .cons hi hx hf t => pgs_cons (pg_name hN hi hx hf) (pgs_of hN (by simpa using hl) t)
theorem pg_of (hN : X.N.Nodup) (hc : X.calm = true) {tg : Expr} {xs : List Str} {is : List Nat} (ht : tgOf tg = some xs) (t : TgOk X xs is) : PG X tg (gT X.K is) := by
  cases tg <;> try (cases ht; done)
  case Name x p =>
    have ht : some [x] = some xs := ht
    cases ht
    cases t with
    | cons hi hx hf t => cases t; exact pg_name hN hi hx hf
  case Tuple es k p =>
    have ht : (match nmsOf es with | some [] => none | some [_] => none | o => o) = some xs := ht
    cases q : nmsOf es with
    | none => rw [q] at ht; cases ht
    | some ys =>
      rw [q] at ht
      match ys, ht, q with
      | [], ht, q => cases ht
      | [_], ht, q => cases ht
      | y1 :: y2 :: ys, ht, q =>
        have ht : some (y1 :: y2 :: ys) = some xs := ht
        cases ht
        obtain ⟨ps, hl, rfl⟩ := nmsOf_names q
        have hz : ((y1 :: y2 :: ys).zip ps).length = (y1 :: y2 :: ys).length := by simp [hl]
        have hlen : is.length = (y1 :: y2 :: ys).length := by
          clear q ht hz hl
          generalize (y1 :: y2 :: ys) = zs at t
          induction t with
          | nil => rfl
          | cons _ _ _ _ ih => simp [ih]
        have hT : gT X.K is = gTup X.K is.length (gNs is) := by
          match is, hlen with
          | [], _ => rfl
          | [_], h => simp at h
          | _ :: _ :: _, _ => rfl
        rw [hT]
        refine pg_tup hc (pgs_of hN hl t) (by rw [each_names, List.length_map, hz, hlen]) ?_
        rw [each_names, List.findIdx?_eq_none_iff]
        intro z hz
        obtain ⟨q, _, rfl⟩ := List.mem_map.mp hz
        rfl
end

section
variable {C : Cfg} {G : List Md} {F0 Fz Fz' Fz1 : Addr → Prop} {Hr H H' H1 : Hp} {env env' : List Mp.D} {σ : L2.St} {As : Nat → List Addr}
theorem wipe_set {i : Nat} {v : Option V} : ∀ {is : List Nat} {σ : L2.St}, i ∈ is → wipe (σ.set i v) is = wipe σ is
  | [], _, h => by cases h
  | j :: is, σ, h => by
    unfold wipe
    by_cases e : i ∈ is
    · rw [wipe_set e]
    · have ej : i = j := by
        rcases List.mem_cons.mp h with h | h
        · exact h
        · exact absurd h e
      subst ej
      have key : ∀ (is : List Nat) (σ : L2.St), i ∉ is → wipe (σ.set i v) is = (wipe σ is).set i v := by
        intro is
        induction is with
        | nil => intro σ _; rfl
        | cons k is ih =>
          intro σ hk
          unfold wipe
          rw [ih σ fun z => hk (List.mem_cons_of_mem _ z)]
          exact List.set_comm _ _ (fun z => hk (by rw [z]; exact List.mem_cons_self))
      rw [key is σ e, List.set_set]
theorem set_fr (b : BI C G F0 Fz Hr env σ H As) {i : Nat} {d : Mp.D} {v : V} (hi : i < σ.length) (hv : Val C Fz H d v) (na : noAl G i = true) :
    BI C (G.set i .fr) F0 Fz Hr (env.set i d) (σ.set i (some v)) H (fun j => if j = i then [] else As j) :=
  b.put hi (.inr ⟨v, rfl, hv, rfl⟩) List.nodup_nil (fun a ha => by cases ha) (fun j a _ ha => by cases ha) (fun k _ => noAl_at na) (fun k h => by cases h)
theorem setAll_len : ∀ {is : List Nat} {ds env env' : List Mp.D}, Mp.setAll is ds env = some env' → is.length = ds.length ∧ env'.length = env.length
  | [], [], _, _, h => by cases h; exact ⟨rfl, rfl⟩
  | [], _ :: _, _, _, h => by cases h
  | _ :: _, [], _, _, h => by cases h
  | i :: is, d :: ds, env, env', h => by
    obtain ⟨h1, h2⟩ := setAll_len (is := is) (ds := ds) h
    exact ⟨by simp [h1], by simpa using h2⟩
theorem noAl_set {i j : Nat} {m : Md} {G : List Md} (h : noAl G j = true) (hm : m ≠ .al j) : noAl (G.set i m) j = true := by
  refine List.all_eq_true.mpr fun x hx => ?_
  rcases List.mem_or_eq_of_mem_set hx with hx | rfl
  · exact List.all_eq_true.mp h x hx
  · simpa using hm
theorem noAls_cons {i : Nat} {is : List Nat} {G : List Md} (h : noAls (i :: is) G = true) : noAl G i = true ∧ noAls is (G.set i .fr) = true := by
  have h := List.all_eq_true.mp h
  exact ⟨h i List.mem_cons_self, List.all_eq_true.mpr fun j hj => noAl_set (h j (List.mem_cons_of_mem _ hj)) (by simp)⟩
theorem gNs_ok {W0 : L2.St} {all : List Nat} {K : L2.St → Hp → Prop} : ∀ {is : List Nat} {ds : List Mp.D} {us : List V} {G : List Md} {env : List Mp.D} {σ : L2.St} {As : Nat → List Addr}, Mp.setAll is ds env = some env' → BI C G F0 Fz Hr env σ H As → Paired (Val C Fz H) ds us →
    (∀ i ∈ is, i < σ.length) → (∀ i ∈ is, i ∈ all) → wipe σ all = W0 → (∀ σ2 As2, BI C (setFr is G) F0 Fz Hr env' σ2 H As2 → wipe σ2 all = W0 → K σ2 H) → noAls is G = true → gNs is us σ H K
  | [], [], _, G, env, σ, As, h, b, l, _, _, e, k, _ => by
    cases h
    cases l
    exact ⟨rfl, k σ As b e⟩
  | [], _ :: _, _, _, _, _, _, h, _, _, _, _, _, _, _ => by cases h
  | _ :: _, [], _, _, _, _, _, h, _, _, _, _, _, _, _ => by cases h
  | i :: is, d :: ds, us, G, env, σ, As, h, b, l, hi, hm, e, k, na => by
    cases l with
    | @cons _ u _ us h1 h2 =>
      refine ⟨u, us, rfl, ?_⟩
      have hi0 := hi i List.mem_cons_self
      exact gNs_ok (is := is) (ds := ds) h (set_fr b hi0 h1 (noAls_cons na).1) h2 (fun j hj => by simpa using hi j (List.mem_cons_of_mem _ hj)) (fun j hj => hm j (List.mem_cons_of_mem _ hj))
        (by rw [wipe_set (hm i List.mem_cons_self)]; exact e) k (noAls_cons na).2
/-- a target takes a frozen value -/
theorem gT_ok {K : L2.St → Hp → Prop} {K' : PySem.W.Frag} (hK : K' = C.K) {is : List Nat} {d : Mp.D} {v : V} (h : Mp.setTg is d env = some env') (b : BI C G F0 Fz Hr env σ H As) (hv : Val C Fz H d v) (hi : ∀ i ∈ is, i < σ.length) (na : noAls is G = true)
    (k : ∀ σ2 As2, BI C (setFr is G) F0 Fz Hr env' σ2 H As2 → wipe σ2 is = wipe σ is → K σ2 H) : gT K' is v σ H K := by
  have tup : ∀ ds, d = .tup ds → Mp.setAll is ds env = some env' → gTup K' is.length (gNs is) v σ H K := fun ds e hs => by
    subst e
    simp only [Val] at hv
    obtain ⟨p, us, rfl, hp, l⟩ := hv
    have hl := l.length
    exact ⟨p, us, rfl, by rw [hK]; exact hp.sq, by rw [← hl, (setAll_len hs).1], gNs_ok hs b (pvals l) hi (fun _ h => h) rfl k na⟩
  match is, h with
  | [i], h =>
    have h : some (env.set i d) = some env' := h
    cases h
    exact k _ _ (set_fr b (hi i List.mem_cons_self) hv (noAls_cons na).1) (wipe_set List.mem_cons_self)
  | [], h =>
    cases d <;> first | (cases h; done) | exact tup _ rfl h
  | i :: j :: is, h =>
    cases d <;> first | (cases h; done) | exact tup _ rfl h
/-- .. or a pair that was just laid -/
theorem gT_okW {K : L2.St → Hp → Prop} {K' : PySem.W.Frag} (hK : K' = C.K) {is : List Nat} {w : Bool} {d : Mp.D} {v : V} (h : Mp.setTg is d env = some env') (b : BI C G F0 Fz Hr env σ H As) (hv : ItV w C Fz H d v) (hi : ∀ i ∈ is, i < σ.length) (na : noAls is G = true) (hw : w = true → is.length ≠ 1)
    (k : ∀ σ2 As2, BI C (setFr is G) F0 Fz Hr env' σ2 H As2 → wipe σ2 is = wipe σ is → K σ2 H) : gT K' is v σ H K := by
  rcases hv with hv | ⟨rfl, ds, p, us, rfl, rfl, hp, l⟩
  · exact gT_ok hK h b hv hi na k
  · have tup : Mp.setAll is ds env = some env' → gTup K' is.length (gNs is) (.ref p) σ H K := fun hs => by
      have hl := l.length
      exact ⟨p, us, rfl, .inl (.inl hp), by rw [← hl, (setAll_len hs).1], gNs_ok hs b (pvals l) hi (fun _ h => h) rfl k na⟩
    match is, h, hw with
    | [_], h, hw => exact absurd rfl (hw rfl)
    | [], h, _ => exact tup h
    | i :: j :: is, h, _ => exact tup h
/-! ### a comprehension's block -/
def unAll : List Nat → List Mp.D → List Mp.D
  | [], env => env
  | i :: is, env => (unAll is env).set i .un
theorem unAll_len : ∀ (is : List Nat) (env : List Mp.D), (unAll is env).length = env.length
  | [], _ => rfl
  | i :: is, env => by unfold unAll; rw [List.length_set, unAll_len is env]
theorem unAll_at : ∀ {is : List Nat} {env : List Mp.D} {j : Nat}, j ∉ is → (unAll is env)[j]? = env[j]?
  | [], _, _, _ => rfl
  | i :: is, env, j, h => by
    unfold unAll
    rw [List.getElem?_set_ne (fun e => h (by rw [e]; exact List.mem_cons_self))]
    exact unAll_at fun z => h (List.mem_cons_of_mem _ z)
theorem unAll_un : ∀ {is : List Nat} {env : List Mp.D} {j : Nat} {d : Mp.D}, j ∈ is → (unAll is env)[j]? = some d → d = .un
  | i :: is, env, j, d, h, e => by
    unfold unAll at e
    by_cases q : i = j
    · subst q
      by_cases hl : i < (unAll is env).length
      · rw [List.getElem?_set_self hl] at e; cases e; rfl
      · rw [List.getElem?_eq_none (by simpa using hl)] at e; cases e
    · rw [List.getElem?_set_ne q] at e
      refine unAll_un ?_ e
      rcases List.mem_cons.mp h with h | h
      · exact absurd h.symm q
      · exact h
theorem wipe_at : ∀ {is : List Nat} {σ : L2.St} {j : Nat}, j ∉ is → (wipe σ is)[j]? = σ[j]?
  | [], _, _, _ => rfl
  | i :: is, σ, j, h => by
    unfold wipe
    rw [List.getElem?_set_ne (fun e => h (by rw [e]; exact List.mem_cons_self))]
    exact wipe_at fun z => h (List.mem_cons_of_mem _ z)
theorem setAll_same : ∀ {is : List Nat} {ds e1 e2 : List Mp.D}, e1.length = e2.length → (∀ j, j ∉ is → e1[j]? = e2[j]?) → Mp.setAll is ds e1 = Mp.setAll is ds e2
  | [], ds, e1, e2, hl, h => by
    have : e1 = e2 := List.ext_getElem? fun j => h j (by simp)
    rw [this]
  | i :: is, [], _, _, _, _ => rfl
  | i :: is, d :: ds, e1, e2, hl, h => by
    show Mp.setAll is ds (e1.set i d) = Mp.setAll is ds (e2.set i d)
    refine setAll_same (by simp [hl]) fun j hj => ?_
    by_cases q : i = j
    · subst q
      by_cases hi : i < e1.length
      · rw [List.getElem?_set_self hi, List.getElem?_set_self (by rw [← hl]; exact hi)]
      · rw [List.getElem?_eq_none (by simpa using hi), List.getElem?_eq_none (by rw [List.length_set, ← hl]; omega)]
    · rw [List.getElem?_set_ne q, List.getElem?_set_ne q]
      exact h j (by simp only [List.mem_cons, not_or]; exact ⟨fun z => q z.symm, hj⟩)
theorem setTg_un {is : List Nat} {d : Mp.D} {env : List Mp.D} : Mp.setTg is d (unAll is env) = Mp.setTg is d env := by
  have k : ∀ ds, Mp.setAll is ds (unAll is env) = Mp.setAll is ds env := fun ds => setAll_same (unAll_len is env) fun j hj => unAll_at hj
  match is with
  | [] => cases d <;> first | rfl | exact k _
  | [i] =>
    show some (((unAll [i] env)).set i d) = some (env.set i d)
    unfold unAll unAll
    rw [List.set_set]
  | i :: j :: is => cases d <;> first | rfl | exact k _
theorem BI.wipe (b : BI C G F0 Fz Hr env σ H As) (is : List Nat) : BI C G F0 Fz Hr (unAll is env) (L2.wipe σ is) H (fun j => if j ∈ is then [] else As j) where
  l1 := by rw [wipe_length]; exact b.l1
  l2 := by rw [wipe_length, unAll_len]; exact b.l2
  slot := fun i m d o h1 h2 h3 => by
    by_cases q : i ∈ is
    · rw [if_pos q]
      exact .inl ⟨unAll_un q h2, rfl⟩
    · rw [if_neg q]
      rw [unAll_at q] at h2
      rw [wipe_at q] at h3
      exact b.slot i m d o h1 h2 h3
  far := fun i hi => by
    show (if i ∈ is then [] else As i) = []
    split
    · rfl
    · exact b.far i (by rw [wipe_length] at hi; exact hi)
  nd := fun i => by
    show (if i ∈ is then [] else As i).Nodup
    split
    · exact List.nodup_nil
    · exact b.nd i
  dj := fun i j a h1 h2 => by
    have h1 : a ∈ (if i ∈ is then [] else As i) := h1
    have h2 : a ∈ (if j ∈ is then [] else As j) := h2
    split at h1
    · cases h1
    · split at h2
      · cases h2
      · exact b.dj i j a h1 h2
  own := fun i a h => by
    have h : a ∈ (if i ∈ is then [] else As i) := h
    split at h
    · cases h
    · exact b.own i a h
  al := fun i k m h1 h2 h3 => by
    have hi : i < env.length := by rw [b.l2, ← b.l1]; exact (List.getElem?_eq_some_iff.mp h1).1
    have hk : k < env.length := by rw [b.l2, ← b.l1]; exact (List.getElem?_eq_some_iff.mp h2).1
    by_cases qi : i ∈ is
    · have hl : i < (unAll is env).length := by rw [unAll_len]; exact hi
      exact .inl (by rw [List.getElem?_eq_getElem hl, ← unAll_un qi (List.getElem?_eq_getElem hl)])
    · by_cases qk : k ∈ is
      · have hl : k < (unAll is env).length := by rw [unAll_len]; exact hk
        exact .inr (.inl (by rw [List.getElem?_eq_getElem hl, ← unAll_un qk (List.getElem?_eq_getElem hl)]))
      · have := b.al i k m h1 h2 h3
        unfold AlOk at this ⊢
        rw [unAll_at qi, unAll_at qk, wipe_at qi, wipe_at qk]
        exact this
  ext := b.ext
/-- the heap changes where the frame has nothing -/
theorem BI.other (b : BI C G F0 Fz Hr env σ H As) (kp : Keep Fz H H') (ho : ∀ i a, a ∈ As i → ∀ o, H a = some o → H' a = some o) (hs : Same Hr H') (trk : ∀ a, Fz a → ∃ o, H' a = some o) : BI C G F0 Fz Hr env σ H' As where
  l1 := b.l1
  l2 := b.l2
  slot := fun i m d o h1 h2 h3 => by
    rcases b.slot i m d o h1 h2 h3 with q | ⟨v, rfl, q⟩
    · exact .inl q
    · refine .inr ⟨v, rfl, ?_⟩
      cases m with
      | fr => exact ⟨Val.keep (fun _ h => h) kp d v q.1, q.2⟩
      | bw k => exact q
      | ow k => exact Ow.keep (fun _ h => h) kp k d v _ (fun a ha => ho i a ha) q
      | sf => exact ⟨q.1, Ow.keep (fun _ h => h) kp 1 d v _ (fun a ha => ho i a ha) q.2⟩
      | al k => exact q
      | jk => exact q
      | ex => exact ⟨q.1, q.2.1.keep (fun _ h => h) kp, q.2.2⟩
  al := fun i k m h1 h2 h3 => (b.al i k m h1 h2 h3).heap fun p us xs hx hv hp => ⟨us, by
    rcases b.root h2 h3 hx hv with z | z | ⟨o, z⟩
    · exact ho k p z _ hp
    · exact kp.fz p _ z hp
    · have := b.ext.same p o z
      rw [hp] at this
      cases this
      exact hs p _ z, fun _ _ h => h⟩
  far := b.far
  nd := b.nd
  dj := b.dj
  own := b.own
  ext := ⟨hs, b.ext.sub, b.ext.new, trk⟩
theorem keep_upd {p : Addr} {o o0 : HO} (hp : H p = some o0) (hm : Mut (some o0)) (hf : ¬ Fz p) : Keep Fz H (upd H p o) where
  fz := fun a u h e => by rw [upd_ne (fun z => by subst z; exact hf h)]; exact e
  tp := fun a us e => by rw [upd_ne (fun z => by subst z; rw [hp] at e; cases e; exact hm)]; exact e
  fr := fun a u x e => by rw [upd_ne (fun z => by subst z; rw [hp] at e; cases e; exact hm)]; exact e
end
end MpS

/-! MpE9: list comprehensions. -/
namespace MpS
open PySem PySem.Spec PyProof.Rows L2

/-- the tests of a clause -/
def tC (C : Cfg) (G : List Md) (sf : Mp.Sf) (W : WX) (cnd : List Mp.E) : TT := fun σ H Q =>
  ∃ F0 Fz Hr env As, BI C G F0 Fz Hr env σ H As ∧ Wg C (fun cls dx H' => W cls dx σ H') Fz H (Mp.evc cnd sf env) fun b => ∀ H' Fz', Ext Fz H Fz' H' → Q b H'
/-- no exception comes out of a block -/
def W0 : WX := fun _ _ _ _ => False
/-- what an item of the list is asked to be -/
def kEl : Kd → Kd
  | .ow (k + 1) => .ow k
  | _ => .rd 0

section
variable {C : Cfg} {G : List Md} {F0 Fz Fz' Fz1 : Addr → Prop} {Hr H H' H1 : Hp} {env env' : List Mp.D} {σ : L2.St} {As : Nat → List Addr} {E : XK} {kd ka : Kd} {Q : VK} {sf : Mp.Sf} {W : WX}
variable {X : Cx} {a b c tg : Expr} {a' b' c' : Mp.E} {pos : Pos} {fz : Bool}
theorem c_nil : PTs X [] (tC C G sf W []) := ⟨fun pins s σ H Q I ⟨F0, Fz, Hr, env, As, b, w⟩ => pts_nil.run pins s σ H Q I (by
  have w : ∀ H' Fz', Ext Fz H Fz' H' → Q true H' := w
  exact w H Fz (.refl b.ext.trk))⟩
theorem c_one (h : PT X a (tT C G sf W a')) : PTs X [a] (tC C G sf W [a']) := ⟨fun pins s σ H Q I ⟨F0, Fz, Hr, env, As, b, w⟩ => (pts_one h).run pins s σ H Q I (by
  refine ⟨F0, Fz, Hr, env, As, b, ?_⟩
  simp only [Mp.evc] at w
  cases h1 : Mp.ev a' sf env with
  | bad => rw [h1] at w; exact (show False from w).elim
  | exc x => rw [h1] at w; exact w
  | ok d =>
    rw [h1] at w
    simp only [Mp.R.bind_ok] at w ⊢
    cases h2 : Mp.truD d with
    | bad => rw [h2] at w; exact (show False from w).elim
    | exc x => exact absurd h2 truD_exc
    | ok r =>
      rw [h2] at w
      cases r <;> exact w)⟩
/-- what one turn of the comprehension gives -/
def lcF (elt : Mp.E) (tg : List Nat) (cnd : List Mp.E) (sf : Mp.Sf) (env : List Mp.D) : Mp.D → Mp.R (Option Mp.D) := fun x => match Mp.setTg tg x env with
  | some env' => (Mp.evc cnd sf env').bind fun b => if b then (Mp.ev elt sf env').bind fun y => .ok (some y) else .ok none
  | none => .bad
theorem lcF_ok {elt : Mp.E} {tg : List Nat} {cnd : List Mp.E} {x : Mp.D} {o : Option Mp.D} (h : lcF elt tg cnd sf env x = .ok o) : ∃ env' r, Mp.setTg tg x env = some env' ∧ Mp.evc cnd sf env' = .ok r ∧
    ((r = false ∧ o = none) ∨ r = true ∧ ∃ y, Mp.ev elt sf env' = .ok y ∧ o = some y) := by
  unfold lcF at h
  cases h1 : Mp.setTg tg x env with
  | none => rw [h1] at h; cases h
  | some env' =>
    rw [h1] at h
    simp only at h
    cases h2 : Mp.evc cnd sf env' with
    | bad => rw [h2] at h; cases h
    | exc z => rw [h2] at h; cases h
    | ok r =>
      rw [h2] at h
      refine ⟨env', r, rfl, h2, ?_⟩
      cases r with
      | false => simp at h; exact .inl ⟨rfl, h.symm⟩
      | true =>
        simp only [Mp.R.bind_ok, if_true] at h
        cases h3 : Mp.ev elt sf env' with
        | bad => rw [h3] at h; cases h
        | exc z => rw [h3] at h; cases h
        | ok y =>
          rw [h3] at h
          simp at h
          exact .inr ⟨rfl, y, rfl, h.symm⟩
theorem lcGo_ok {f : Mp.D → Mp.R (Option Mp.D)} {x : Mp.D} {xs ys : List Mp.D} (h : Mp.lcGo f (x :: xs) = .ok ys) : ∃ o zs, f x = .ok o ∧ Mp.lcGo f xs = .ok zs ∧ ys = o.toList ++ zs := by
  simp only [Mp.lcGo] at h
  cases h1 : f x with
  | bad => rw [h1] at h; cases h
  | exc z => rw [h1] at h; cases h
  | ok o =>
    rw [h1] at h
    simp only [Mp.R.bind_ok] at h
    cases h2 : Mp.lcGo f xs with
    | bad => rw [h2] at h; cases h
    | exc z => rw [h2] at h; cases h
    | ok zs =>
      rw [h2] at h
      refine ⟨o, zs, rfl, rfl, ?_⟩
      cases o <;> (simp at h; subst h; rfl)
theorem owl_app {P : Mp.D → V → List Addr → Prop} : ∀ {ds : List Mp.D} {us : List V} {A B : List Addr} {d : Mp.D} {v : V}, OwL P ds us A → P d v B → OwL P (ds ++ [d]) (us ++ [v]) (A ++ B)
  | [], us, A, B, d, v, h, p => by
    obtain ⟨rfl, rfl⟩ := h
    exact ⟨v, [], B, [], rfl, by simp, p, rfl, rfl⟩
  | d0 :: ds, us, A, B, d, v, h, p => by
    obtain ⟨u, us', B1, B2, rfl, rfl, h1, h2⟩ := h
    exact ⟨u, us' ++ [v], B1, B2 ++ B, rfl, by simp, h1, owl_app h2 p⟩
theorem wipe_wipe {all : List Nat} : ∀ {is : List Nat} {σ : L2.St}, (∀ i ∈ is, i ∈ all) → L2.wipe (L2.wipe σ is) all = L2.wipe σ all
  | [], _, _ => rfl
  | i :: is, σ, h => by
    show L2.wipe ((L2.wipe σ is).set i none) all = L2.wipe σ all
    rw [wipe_set (h i List.mem_cons_self)]
    exact wipe_wipe fun j hj => h j (List.mem_cons_of_mem _ hj)
/-- where a comprehension stands ahead of a turn -/
structure LcSt (C : Cfg) (kd : Kd) (G : List Md) (F0 : Addr → Prop) (Fz : Addr → Prop) (Hr : Hp) (env : List Mp.D) (σ : L2.St) (As : Nat → List Addr) (H : Hp) (D : Addr) (Sp : Addr → Prop) (S : (Addr → Prop) → Hp → Prop) (f : Mp.D → Mp.R (Option Mp.D)) (xs ys : List Mp.D) (i : Nat) (H' : Hp) : Prop where
  ex : ∃ Fz' done rest acc A, Mp.lcGo f (xs.drop i) = .ok rest ∧ ys = done ++ rest ∧ H' D = some (.lst acc) ∧ OwL (fun d v B => Rs C (kEl kd) Fz' H' d v B) done acc A ∧ A.Nodup ∧ (∀ a ∈ A, H a = none ∧ ¬ Fz' a ∧ a ≠ D) ∧
    BI C G F0 Fz' Hr env σ H' As ∧ Ext Fz H Fz' H' ∧ S Fz' H' ∧ ¬ Fz' D
/-- the whole list is there -/
theorem lc_fin {D : Addr} {ys : List Mp.D} {acc : List V} {A : List Addr} (hf : Fin C Q kd Fz H (.lst ys)) (ex : Ext Fz H Fz1 H1) (hD : H D = none) (nD : ¬ Fz1 D) (h1 : H1 D = some (.lst acc)) (ow : OwL (fun d v B => Rs C (kEl kd) Fz1 H1 d v B) ys acc A) (nd : A.Nodup) (fr : ∀ a ∈ A, H a = none ∧ ¬ Fz1 a ∧ a ≠ D) : Q (.ref D) H1 := by
  have fzk : kd1 kd = true ∧ kEl kd = .rd 0 ∨ ∃ k, kd = .ow (k + 1) := by
    cases kd with
    | rd k => exact .inl ⟨rfl, rfl⟩
    | ow k => cases k with
      | zero => exact .inl ⟨rfl, rfl⟩
      | succ k => exact .inr ⟨k, rfl⟩
  rcases fzk with ⟨hk, e⟩ | ⟨k, rfl⟩
  · rw [e] at ow
    have vals : Paired (Val C Fz1 H1) ys acc := ow.paired fun d v B _ h => h.1
    have ext : Ext Fz H (fun a => Fz1 a ∨ a = D) H1 := ⟨ex.same, fun a h => .inl (ex.sub a h), fun a h => by
      rcases h with h | rfl
      · exact ex.new a h
      · exact .inr hD, fun a h => by
      rcases h with h | rfl
      · exact ex.trk a h
      · exact ⟨_, h1⟩⟩
    have vl : Val C (fun a => Fz1 a ∨ a = D) H1 (.lst ys) (.ref D) := by
      simp only [Val]
      exact ⟨D, acc, rfl, .inr rfl, h1, valL_iff.mpr (pimp vals fun d v h => Val.keep (fun _ h => .inl h) (.of (Same.refl _)) d v h)⟩
    cases kd with
    | rd k => exact hf _ _ _ [] ext ⟨Rd.of_val k _ _ vl, rfl⟩ List.nodup_nil (fun a ha => by cases ha)
    | ow k =>
      have hk' : k = 0 ∨ k = 1 := by have : k ≤ 1 := of_decide_eq_true hk; omega
      rcases hk' with rfl | rfl
      · exact hf _ _ _ [] ext ⟨vl, rfl⟩ List.nodup_nil (fun a ha => by cases ha)
      · cases e
  · have ow : OwL (Ow C Fz1 H1 k) ys acc A := ow
    refine hf _ H1 Fz1 (D :: A) ex ⟨D, acc, A, rfl, h1, rfl, ow⟩ (List.nodup_cons.mpr ⟨fun z => (fr D z).2.2 rfl, nd⟩) fun a ha => ?_
    rcases List.mem_cons.mp ha with rfl | ha
    · exact ⟨hD, nD⟩
    · exact ⟨(fr a ha).1, (fr a ha).2.1⟩
theorem lc_read {K : PySem.W.Frag} (hK : K = C.K) {elt it : Mp.E} {tg : List Nat} {cnd : List Mp.E} (hi : ∀ i ∈ tg, i < G.length) (na : noAls tg G = true) (hw : wkIt it = true → tg.length ≠ 1) (q : tE C G sf W kd (.lc elt tg it cnd) σ H Q) :
    tLc (tI C G sf W false it) (gT K tg) (tC C (setFr tg G) sf W0 cnd) (tE C (setFr tg G) sf W0 (kEl kd) elt) tg σ H Q := by
  obtain ⟨F0, Fz, Hr, env, As, b, w⟩ := q
  have bb : ∀ {α β γ : Type} (r : Mp.R α) (f : α → Mp.R β) (g : β → Mp.R γ), (r.bind fun x => (f x).bind g) = (r.bind f).bind g := fun r f g => by cases r <;> rfl
  have w : WF C (fun cls dx H' => W cls dx σ H') kd Fz H (((Mp.ev it sf env).bind Mp.items).bind fun xs => (Mp.lcGo (lcF elt tg cnd sf env) xs).nox.bind fun ys => if ys.length ≤ Mp.LIM then .ok (.lst ys) else .bad) Q := by
    rw [← bb]
    exact w
  refine ⟨F0, Fz, Hr, env, As, b, (Wg.bind w).imp fun xs exs q J H1 Fz1 Sp S e1 src hS _ D hD => ?_⟩
  cases hgo : Mp.lcGo (lcF elt tg cnd sf env) xs with
  | bad => rw [hgo] at q; exact (show False from q).elim
  | exc z => rw [hgo] at q; exact (show False from q).elim
  | ok ys =>
    rw [hgo] at q
    simp only [Mp.R.nox_ok, Mp.R.bind_ok] at q
    split at q
    · rename_i hlim
      have q : Fin C Q kd Fz H (.lst ys) := q
      have hDH : H D = none := e1.same.free hD
      have nSp : ∀ {Fz2 : Addr → Prop} {H2 : Hp}, S Fz2 H2 → Sp D → (∃ o, H2 D = some o) := fun hS h => src.dom _ _ D hS h
      have nD : ¬ Sp D := fun z => by obtain ⟨o, e⟩ := src.dom _ _ D hS z; rw [hD] at e; cases e
      have nF : ¬ Fz1 D := fun z => by obtain ⟨o, e⟩ := e1.trk D z; rw [hD] at e; cases e
      have hrD : Hr D = none := (b.grow e1).ext.same.free hD
      refine ⟨fun i m H' => m = xs.length - i ∧ i ≤ xs.length ∧ LcSt C kd G F0 Fz Hr env σ As H D Sp S (lcF elt tg cnd sf env) xs ys i H', ⟨xs.length, by simp, Nat.zero_le _, ?_⟩, ?_⟩
      · have e2 : Ext Fz1 H1 Fz1 (upd H1 D (.lst [])) := ext_new hD e1.trk
        exact ⟨Fz1, [], ys, [], [], by simpa using hgo, rfl, upd_same, ⟨rfl, rfl⟩, List.nodup_nil, (fun a ha => by cases ha), (b.grow e1).grow e2, e1.trans e2, src.keep _ _ _ _ hS (fun _ h => h) (.of e2.same) (fun a _ o h => e2.same a o h), nF⟩
      · rintro i m H2 ⟨rfl, hle, ⟨Fz2, done, rest, acc, A, hg, hy, hDl, ow, nd, fr, b2, ex2, hS2, nF2⟩⟩
        by_cases hlt : i < xs.length
        · refine .inr ⟨src.go i Fz2 H2 hS2 hlt, fun H' => LcSt C kd G F0 Fz Hr env σ As H D Sp S (lcF elt tg cnd sf env) xs ys (i + 1) H', fun H' p => ⟨xs.length - (i + 1), by omega, rfl, hlt, p⟩, fun x H3 hyl => ?_⟩
          have hxi : xs[i]? = some xs[i] := by simp [hlt]
          obtain ⟨same3, hv⟩ := src.yld i Fz2 H2 x H3 xs[i] hS2 hxi hyl
          have e3 : Ext Fz2 H2 Fz2 H3 := ⟨same3, fun _ h => h, fun _ h => .inl h, fun a h => by obtain ⟨o, e⟩ := ex2.trk a h; exact ⟨o, same3 a o e⟩⟩
          have hdrop : xs.drop i = xs[i] :: xs.drop (i + 1) := (List.drop_eq_getElem_cons hlt)
          rw [hdrop] at hg
          obtain ⟨o, zs, hf, hgz, hr⟩ := lcGo_ok hg
          obtain ⟨env', r, hset, hc, ho⟩ := lcF_ok hf
          have b3 := b2.grow e3
          have bw := BI.wipe b3 tg
          rw [← setTg_un] at hset
          refine gT_okW hK hset bw hv (fun j hj => by rw [wipe_length, ← b.l1]; exact hi j hj) na hw fun σ2 As2 b4 hw => ⟨by rw [hw]; exact wipe_wipe fun _ h => h, F0, Fz2, Hr, env', As2, b4, ?_⟩
          rw [hc]
          intro H4 Fz4 e4
          -- the outer frame behind the test
          have eo : Ext Fz2 H2 Fz4 H4 := e3.trans e4
          have dD : H4 D = some (.lst acc) := eo.same D _ hDl
          have nF4 : ∀ {Fz5 : Addr → Prop} {H5 : Hp}, Ext Fz2 H2 Fz5 H5 → ¬ Fz5 D := fun {Fz5 H5} e z => by
            rcases e.new D z with z | z
            · exact nF2 z
            · rw [hDl] at z; cases z
          have owg : ∀ {Fz5 : Addr → Prop} {H5 : Hp}, Ext Fz2 H2 Fz5 H5 → OwL (fun d v B => Rs C (kEl kd) Fz5 H5 d v B) done acc A := fun {Fz5 H5} e => ow.imp fun d v B _ h => Rs.grow e h
          have muA : ∀ a ∈ A, ∃ o, H2 a = some o := ow.all fun d v B h => Rs.mut h
          have frg : ∀ {Fz5 : Addr → Prop} {H5 : Hp}, Ext Fz2 H2 Fz5 H5 → ∀ a ∈ A, H a = none ∧ ¬ Fz5 a ∧ a ≠ D := fun {Fz5 H5} e a ha => ⟨(fr a ha).1, (fun z => by
            rcases e.new a z with z | z
            · exact (fr a ha).2.1 z
            · obtain ⟨o, e⟩ := muA a ha
              rw [z] at e; cases e), (fr a ha).2.2⟩
          have Sg : ∀ {Fz5 : Addr → Prop} {H5 : Hp}, Ext Fz2 H2 Fz5 H5 → S Fz5 H5 := fun {Fz5 H5} e => src.keep _ _ _ _ hS2 e.sub (.of e.same) fun a _ o h => e.same a o h
          rcases ho with ⟨rfl, rfl⟩ | ⟨rfl, y, hy', rfl⟩
          · simp only [Bool.false_eq_true, if_false]
            exact ⟨Fz4, done, zs, acc, A, hgz, by rw [hy, hr]; rfl, dD, owg eo, nd, frg eo, b2.grow eo, ex2.trans eo, Sg eo, nF4 eo⟩
          · simp only [if_true]
            refine ⟨F0, Fz4, Hr, env', As2, b4.grow e4, ?_⟩
            rw [hy']
            intro v H5 Fz5 B e5 r5 n5 f5
            have e25 : Ext Fz2 H2 Fz5 H5 := eo.trans e5
            have dD5 : H5 D = some (.lst acc) := e5.same D _ dD
            have len : acc.length < sizeLine := by
              have := ow.length
              rw [sizeLine_eq, ← this]
              have : ys.length = done.length + (some y).toList.length + zs.length := by rw [hy, hr]; simp only [List.length_append, Option.toList_some]; omega
              simp at this
              have hlim : ys.length ≤ 16777216 := hlim
              omega
            refine ⟨acc, dD5, len, ?_⟩
            have kp : Keep Fz5 H5 (upd H5 D (.lst (acc ++ [v]))) := keep_upd dD5 True.intro (nF4 e25)
            have ne : ∀ a, a ≠ D → ∀ o, H5 a = some o → upd H5 D (.lst (acc ++ [v])) a = some o := fun a hn o h => by rw [upd_ne hn]; exact h
            have BD : ∀ a ∈ B, a ≠ D := fun a ha z => by
              subst z
              have := (f5 a ha).1
              rw [dD] at this; cases this
            have b5 := b2.grow e25
            have rsk : ∀ d w B, (∀ a ∈ B, a ≠ D) → Rs C (kEl kd) Fz5 H5 d w B → Rs C (kEl kd) Fz5 (upd H5 D (.lst (acc ++ [v]))) d w B := fun d w B hB h => by
              cases hk : kEl kd with
              | rd k =>
                have k0 : k = 0 := by
                  cases kd with
                  | rd _ => cases hk; rfl
                  | ow j => cases j with
                    | zero => cases hk; rfl
                    | succ j => cases hk
                subst k0
                rw [hk] at h
                exact ⟨Val.keep (fun _ h => h) kp d w h.1, h.2⟩
              | ow k =>
                rw [hk] at h
                exact Ow.keep (fun _ h => h) kp k d w B (fun a ha => ne a (hB a ha)) h
            refine ⟨Fz5, done ++ [y], zs, acc ++ [v], A ++ B, hgz, by rw [hy, hr]; simp, upd_same, ?_, ?_, ?_, ?_, ?_, ?_, nF4 e25⟩
            · exact owl_app ((owg e25).imp fun d w B' hB' h => rsk d w B' (fun a ha => (frg e25 a (hB' a ha)).2.2) h) (rsk y v B BD r5)
            · refine nodup_app nd n5 fun a ha hb => ?_
              obtain ⟨o, e⟩ := muA a ha
              have := (f5 a hb).1
              rw [eo.same a o e] at this; cases this
            · intro a ha
              rcases List.mem_append.mp ha with ha | ha
              · exact frg e25 a ha
              · exact ⟨(ex2.trans eo).same.free (f5 a ha).1, (f5 a ha).2, BD a ha⟩
            · refine b5.other kp (fun j a ha => ne a fun z => ?_) (fun a o h => ne a (fun z => by subst z; rw [hrD] at h; cases h) o (b5.ext.same a o h)) fun a h => ?_
              · subst z
                have z1 := (b.grow e1).mut j a ha
                obtain ⟨o, e, _⟩ := z1
                rw [hD] at e; cases e
              · obtain ⟨o, e⟩ := e25.trk a h
                by_cases z : a = D
                · subst z; exact ⟨_, upd_same⟩
                · exact ⟨o, ne a z o e⟩
            · have ex5 := ex2.trans e25
              refine ⟨fun a o h => ne a (fun z => by subst z; rw [hDH] at h; cases h) o (ex5.same a o h), ex5.sub, ex5.new, fun a h => ?_⟩
              obtain ⟨o, e⟩ := ex5.trk a h
              by_cases z : a = D
              · subst z; exact ⟨_, upd_same⟩
              · exact ⟨o, ne a z o e⟩
            · exact src.keep _ _ _ _ (Sg e25) (fun _ h => h) kp fun a hs o h => ne a (fun z => nD (z ▸ hs)) o h
        · have e : i = xs.length := by omega
          subst e
          refine .inl ⟨src.stop _ Fz2 H2 hS2 (Nat.le_refl _), ?_⟩
          rw [List.drop_length] at hg
          have hg : Mp.R.ok [] = Mp.R.ok rest := hg
          cases hg
          rw [List.append_nil] at hy
          subst hy
          exact lc_fin q ex2 hDH nF2 hDl ow nd fr
    · exact (show False from q).elim
end
end MpS

/-! MpPut: a dict's new entry. -/
namespace MpS
open PySem PySem.Spec PyProof.Rows L2

/-! ### plain -/
section
variable {κ : Type} [DecidableEq κ]
def kput : List κ → κ → List κ
  | k :: ks, x => if k = x then k :: ks else k :: kput ks x
  | [], x => [x]
def vput : List κ → List V → κ → V → List V
  | k :: ks, v :: vs, x, y => if k = x then y :: vs else v :: vput ks vs x y
  | _, _, _, y => [y]
theorem kput_mem {z : κ} : ∀ {ks : List κ} {x : κ}, z ∈ kput ks x → z ∈ ks ∨ z = x
  | [], x, h => by simp [kput] at h; exact .inr h
  | k :: ks, x, h => by
    unfold kput at h
    split at h
    · exact .inl h
    · rcases List.mem_cons.mp h with h | h
      · exact .inl (by rw [h]; exact List.mem_cons_self)
      · rcases kput_mem h with h | h
        · exact .inl (List.mem_cons_of_mem _ h)
        · exact .inr h
theorem kput_nodup : ∀ {ks : List κ} {x : κ}, ks.Nodup → (kput ks x).Nodup
  | [], x, _ => by simp [kput]
  | k :: ks, x, h => by
    unfold kput
    obtain ⟨h1, h2⟩ := List.nodup_cons.mp h
    split
    · exact h
    · rename_i hn
      refine List.nodup_cons.mpr ⟨fun z => ?_, kput_nodup h2⟩
      rcases kput_mem z with z | z
      · exact h1 z
      · exact hn z
theorem put_len : ∀ {ks : List κ} {vs : List V} {x : κ} {y : V}, ks.length = vs.length → (kput ks x).length = (vput ks vs x y).length
  | [], [], _, _, _ => rfl
  | [], _ :: _, _, _, h => by simp at h
  | _ :: _, [], _, _, h => by simp at h
  | k :: ks, v :: vs, x, y, h => by
    unfold kput vput
    split
    · simpa using h
    · simpa using put_len (ks := ks) (vs := vs) (by simpa using h)
theorem putK_zip : ∀ {ks : List κ} {vs : List V} {x : κ} {y : V}, ks.length = vs.length → ks.Nodup → putK (ks.zip vs) x y = (kput ks x).zip (vput ks vs x y)
  | [], [], x, y, _, _ => rfl
  | [], _ :: _, _, _, h, _ => by simp at h
  | _ :: _, [], _, _, h, _ => by simp at h
  | k :: ks, v :: vs, x, y, h, nd => by
    obtain ⟨n1, n2⟩ := List.nodup_cons.mp nd
    have hl : ks.length = vs.length := by simpa using h
    have ih := putK_zip (x := x) (y := y) hl n2
    unfold kput vput
    by_cases e : k = x
    · subst e
      rw [if_pos rfl, if_pos rfl]
      unfold putK
      rw [if_pos (by simp)]
      simp only [List.zip_cons_cons, List.map_cons, if_true]
      congr 1
      have : ∀ p ∈ ks.zip vs, (if p.1 = k then (p.1, y) else p) = p := fun p hp => by
        rw [if_neg]
        rintro rfl
        exact n1 (List.of_mem_zip hp).1
      exact (List.map_congr_left this).trans (List.map_id _)
    · rw [if_neg e, if_neg e]
      simp only [List.zip_cons_cons]
      rw [← ih]
      unfold putK
      simp only [List.any_cons, decide_eq_false e, Bool.false_or, List.map_cons, if_neg e]
      by_cases ha : ((ks.zip vs).any fun kv => decide (kv.1 = x)) = true
      · rw [if_pos ha, if_pos ha]
      · rw [if_neg ha, if_neg ha]; rfl
end
/-- a put of keys and values, in step -/
theorem dput_keys {κ : Type} [DecidableEq κ] {kf : Mp.D → Option κ} (hq : ∀ a b k l, kf a = some k → kf b = some l → Mp.eqD a b = decide (k = l)) {x : Mp.D} {k : κ} (hx : kf x = some k) : ∀ {ks : List Mp.D} {kk : List κ}, ks.map kf = kk.map some → (Mp.dputK ks x).map kf = (kput kk k).map some
  | [], kk, e => by
    cases kk with
    | nil => simp [Mp.dputK, kput, hx]
    | cons _ _ => simp at e
  | a :: ks, kk, e => by
    cases kk with
    | nil => simp at e
    | cons b kk =>
      simp only [List.map_cons, List.cons.injEq] at e
      unfold Mp.dputK kput
      rw [hq a x b k e.1 hx]
      by_cases hb : b = k
      · rw [if_pos (by simpa using hb), if_pos hb]
        simp [e.1, e.2]
      · rw [if_neg (by simpa using hb), if_neg hb]
        simp [e.1, dput_keys hq hx e.2]
theorem dput_vals {κ : Type} [DecidableEq κ] {P : Mp.D → V → Prop} {kf : Mp.D → Option κ} (hq : ∀ a b k l, kf a = some k → kf b = some l → Mp.eqD a b = decide (k = l)) {x y : Mp.D} {u : V} {k : κ} (hx : kf x = some k) (hy : P y u) : ∀ {ks : List Mp.D} {kk : List κ} {vs : List Mp.D} {us : List V}, ks.map kf = kk.map some → ks.length = us.length → Paired P vs us →
    Paired P (Mp.dputV ks vs x y) (vput kk us k u)
  | [], kk, vs, us, e, hl, l => by
    cases us with
    | cons _ _ => simp at hl
    | nil =>
      cases l
      cases kk with
      | nil => exact .cons hy .nil
      | cons _ _ => simp at e
  | a :: ks, kk, vs, us, e, hl, l => by
    cases kk with
    | nil => simp at e
    | cons b kk =>
      cases l with
      | nil => simp at hl
      | @cons d w vs us h1 h2 =>
        simp only [List.map_cons, List.cons.injEq] at e
        unfold Mp.dputV vput
        rw [hq a x b k e.1 hx]
        by_cases hb : b = k
        · rw [if_pos (by simpa using hb), if_pos hb]
          exact .cons hy h2
        · rw [if_neg (by simpa using hb), if_neg hb]
          exact .cons h1 (dput_vals hq hx hy e.2 (by simpa using hl) h2)
section
variable {C : Cfg} {Fz Fz' Fz1 Fz2 : Addr → Prop} {H H' H1 H2 : Hp}
/-- a key: with w a display that was just laid -/
def KyV (w : Bool) (C : Cfg) (Fz : Addr → Prop) (H : Hp) (d : Mp.D) (v : V) : Prop := match w with
  | true => ∃ ds p us, d = .tup ds ∧ v = .ref p ∧ H p = some (.tup us) ∧ ValL C Fz H ds us
  | false => ∃ k, Rd C Fz H k d v
theorem KyV.grow {w : Bool} {d : Mp.D} {v : V} (e : Ext Fz H Fz1 H1) (h : KyV w C Fz H d v) : KyV w C Fz1 H1 d v := by
  cases w with
  | true =>
    obtain ⟨ds, p, us, h1, h2, h3, l⟩ := h
    exact ⟨ds, p, us, h1, h2, e.same _ _ h3, ValL.keep e.sub (.of e.same) _ _ l⟩
  | false =>
    obtain ⟨k, h⟩ := h
    exact ⟨k, Rd.same e.same e.sub k d v h⟩
def tKy (C : Cfg) (G : List Md) (sf : Mp.Sf) (W : WX) (w : Bool) (k : Mp.E) : TE := fun σ H Q =>
  ∃ F0 Fz Hr env As, BI C G F0 Fz Hr env σ H As ∧ Wg C (fun cls dx H' => W cls dx σ H') Fz H (Mp.ev k sf env) fun d => ∀ v H' Fz', Ext Fz H Fz' H' → KyV w C Fz' H' d v → Q v H'
theorem ky_of {X : Cx} {G : List Md} {sf : Mp.Sf} {W : WX} {e : Expr} {e' : Mp.E} {j : Nat} (h : PE X e (tE C G sf W (.rd j) e')) : PE X e (tKy C G sf W false e') :=
  PE.imp h fun σ H Q ⟨F0, Fz, Hr, env, As, b, w⟩ => ⟨F0, Fz, Hr, env, As, b, w.imp fun d _ q v H' Fz' A ex r _ _ => q v H' Fz' ex ⟨j, r.1⟩⟩
theorem ky_tup {X : Cx} {G : List Md} {sf : Mp.Sf} {W : WX} {es : List Expr} {es' : List Mp.E} {x1} {pos : Pos} (hl : es.length ≤ 1000) (h : Args X C G sf W (List.replicate es'.length (.rd 0)) es es') : PE X (.Tuple es x1 pos) (tKy C G sf W true (.tupE es')) := by
  refine PE.imp (pe_tup (a_of h)) fun σ H Q ⟨F0, Fz, Hr, env, As, b, w⟩ => ⟨F0, Fz, Hr, env, As, b, ?_⟩
  have w : Wg C (fun cls dx H' => W cls dx σ H') Fz H ((Mp.evs es' sf env).bind fun ds => Mp.R.ok (Mp.D.tup ds)) (fun d => ∀ v H' Fz', Ext Fz H Fz' H' → KyV true C Fz' H' d v → Q v H') := w
  refine (Wg.bind w).imp fun ds _ q vs H1 Fz1 A e1 r n f => ?_
  obtain ⟨p, rfl, l⟩ := r.vals
  have := plen p
  have := h.len.2
  refine ⟨by rw [sizeLine_eq]; omega, fun t ht => ?_⟩
  have q : ∀ v H' Fz', Ext Fz H Fz' H' → KyV true C Fz' H' (.tup ds) v → Q v H' := q
  have e2 : Ext Fz1 H1 Fz1 (upd H1 t (.tup vs)) := ext_new ht e1.trk
  exact q _ _ Fz1 (e1.trans e2) ⟨ds, t, vs, rfl, rfl, upd_same, ValL.keep (fun _ h => h) (.of e2.same) _ _ (valL_iff.mpr p)⟩
/-- d[y] = v where d is a dict -/
theorem dct_put {p : Addr} {tk : Bool} {ks vs : List Mp.D} {us : List V} {x y : Mp.D} {v u : V} {w : Bool} (hd : DctAt H p tk ks us) (hv : ValL C Fz H vs us) (hk : Mp.keyD tk x = true) (hw : tk = true → w = true) (rx : KyV w C Fz H x v) (ry : Val C Fz H y u) (hl : ks.length < Mp.LIM) :
    ∃ o us', DPut H p v u (upd H p o) ∧ Mut (some o) ∧ DctAt (upd H p o) p tk (Mp.dputK ks x) us' ∧ Paired (Val C Fz H) (Mp.dputV ks vs x y) us' ∧ (Mp.dputK ks x).length = us'.length := by
  obtain ⟨hlen, hd⟩ := hd
  cases tk with
  | true =>
    obtain ⟨kk, e, h, ne, nd⟩ := hd
    obtain ⟨xs, k, rfl, hx, hn⟩ := keyD_T hk
    rw [hw rfl] at rx
    obtain ⟨_, b, us', ed, rfl, hb, lb⟩ := rx
    cases ed
    have eu := keysOf_val hx (pvals lb)
    have hb' : H b = some (.tup (k.map kV)) := by rw [hb, eu]
    have hkl : kk.length = us.length := by
      have := congrArg List.length e
      simp at this
      omega
    have ek := dput_keys (kf := keyT) (x := .tup xs) (k := k) (fun a b k l => keyT_eq) hx e
    have l2 := put_len (x := k) (y := u) hkl
    have hlz : (kk.zip us).length < sizeLine := by
      rw [sz, List.length_zip, hkl]
      have : ks.length < Mp.LIM := hl
      omega
    have ll : (Mp.dputK ks (.tup xs)).length = (vput kk us k u).length := by
      have := congrArg List.length ek
      simp only [List.length_map] at this
      omega
    refine ⟨_, vput kk us k u, DPut.t h hb' hlz, True.intro, ⟨ll, kput kk k, ek, ?_, fun z hz => ?_, kput_nodup nd⟩, dput_vals (kf := keyT) (x := .tup xs) (k := k) (fun a b k l => keyT_eq) hx ry e hlen (pvals hv), ll⟩
    · rw [upd_same, putK_zip hkl nd]
    · rcases kput_mem hz with hz | hz
      · exact ne z hz
      · rw [hz]; exact hn
  | false =>
    obtain ⟨kk, e, h, nd⟩ := hd
    obtain ⟨k, hx⟩ := keyD_K hk
    obtain ⟨j, rx⟩ : ∃ j, Rd C Fz H j x v := by
      cases w with
      | true =>
        obtain ⟨_, _, _, ed, _⟩ := rx
        subst ed
        cases hx
      | false => exact rx
    have ev : v = kV k := keyOf_val hx (rdVal rx (by rintro ds rfl; cases hx) (by rintro _ _ _ rfl; cases hx) (by rintro _ _ _ rfl; cases hx))
    subst ev
    have hkl : kk.length = us.length := by
      have := congrArg List.length e
      simp at this
      omega
    have ek := dput_keys (kf := keyOf) (x := x) (k := k) (fun a b k l => keyOf_eq) hx e
    have l2 := put_len (x := k) (y := u) hkl
    have hlz : (kk.zip us).length < sizeLine := by
      rw [sz, List.length_zip, hkl]
      have : ks.length < Mp.LIM := hl
      omega
    have ll : (Mp.dputK ks x).length = (vput kk us k u).length := by
      have := congrArg List.length ek
      simp only [List.length_map] at this
      omega
    refine ⟨_, vput kk us k u, DPut.k h hlz, True.intro, ⟨ll, kput kk k, ek, ?_, kput_nodup nd⟩, dput_vals (kf := keyOf) (fun a b k l => keyOf_eq) hx ry e hlen (pvals hv), ll⟩
    rw [upd_same, putK_zip hkl nd]

end
end MpS

/-! MpDc: dict comprehensions, keys of either sort. -/
namespace MpS
open PySem PySem.Spec PyProof.Rows L2

/-- an empty dict of the sort -/
def dNew : Bool → HO
  | true => .dT []
  | false => .dK []
section
variable {X : Cx}
/-- one more entry, by a comprehension -/
theorem dictSet_put {pins : List (Addr × Obj)} {σ : L2.St} {H H' : Hp} {s : Shared} {E : Value → Shared → Prop} {D : Addr} {y v : V} {u r : Value} {Q : Unit → Shared → Prop} (hu : X.A.units + 1 < cLine) (I : Inv X pins σ H s) (g : DPut H D y v H') (ry : RelV y u) (rv : RelV v r)
    (h : ∀ s', Inv X pins σ H' s' → Q () s') : wpAny (model X.prog X.w) X.A (dictSet D u r) Q E s := by
  rcases g with ⟨kvs, k, hD, rfl, hz, rfl⟩ | ⟨kvs, k, b, hD, rfl, hb, hz, rfl⟩
  · exact d_dictSet I hD hz ry rv h
  · cases (show u = Value.ref b from ry)
    obtain ⟨z, hd, xs, rel, dd⟩ := dt_of I.hok hD
    have hx : xs.length ≤ sizeLine := by rw [← Paired.length rel]; exact z
    have hl : (putK kvs k v).length ≤ sizeLine := by have := length_putK kvs k v; omega
    refine wpAny_dictSet_heap (hsz := hx) (by first | exact tupleKind_room_in1 hu | (show X.A.units < cLine; omega) | exact Nat.lt_of_succ_lt hu) (key_of I.hok hb) dd fun h' dd' hs => h _ ?_
    obtain ⟨q, es, ep, hq, h2, h3, h4, _, h5⟩ := dd'
    refine d_write I (by rw [hD]; exact True.intro) hs ⟨q, hq⟩ ⟨hl, hd, _, (rel.put k hb rv).keeps fun c ys ec => ?_, q, es, ep, hq, h2, h3, h4, h5⟩
    rw [upd_ne (ne_of ec hD (fun z => nomatch z))]
    exact ec
/-- the reading: Q1 what a turn's store must reach -/
def tDg (tk : Bool) (wi : L2.TI) (g : TG) (ta tb : TE) (vs : List Nat) : TE := fun σ H Q => wi σ H fun J H1 => ∀ D, H1 D = none → ∃ W : Nat → Nat → Hp → Prop, (∃ m, W 0 m (upd H1 D (dNew tk))) ∧ ∀ i m H, W i m H →
  (J.stop i H ∧ Q (.ref D) H) ∨ (J.go i H ∧ ∃ Nx : Hp → Prop, (∀ H', Nx H' → ∃ m', m' < m ∧ W (i + 1) m' H') ∧ ∀ x H', J.yld i H x H' → g x (wipe σ vs) H' fun σ2 H2 => wipe σ2 vs = wipe σ vs ∧ ta σ2 H2 fun y H4 => tb σ2 H4 fun z H5 => ∃ H6, DPut H5 D y z H6 ∧ Nx H6)
theorem laid_new {tk : Bool} {pins : List (Addr × Obj)} {σ : L2.St} {H : Hp} {s : Shared} (I : Inv X pins σ H s) : Inv X pins σ (upd H s.heap.objs.size (dNew tk)) { s with heap := s.heap.push { cls := .type "dict", data := .dict #[] } } := by
  cases tk with
  | true => exact I.laid (a := s.heap.objs.size) (o := .dT []) (t' := s.toks) (fun _ _ q => Heap.get?_push_of_some _ q) (Nat.le_refl _) (dt_empty s.heap I.big)
  | false => exact I.laid (a := s.heap.objs.size) (o := .dK []) (t' := s.toks) (fun _ _ q => Heap.get?_push_of_some _ q) (Nat.le_refl _) (dk_empty s.heap I.big)
theorem dg_core {tk : Bool} {pins : List (Addr × Obj)} {s : Shared} {σ : L2.St} {H : Hp} {Q : VK} {ka va tg iter : Expr} {scope : Scope} {own : List (Str × Nat)} {pos pos' : Pos} {wi : L2.TI} {g : TG} {ta tb : TE} {use : Option (Value → Sem Unit)} {Qf : Value → Shared → Prop}
    (hc : X.calm = true) (hu : X.A.units + 1 < cLine) (hN : X.N.Nodup) (I : Inv X pins σ H s) (hi : PI X tg iter wi) (ok : BlkOk X.N X.env.scope scope own)
    (hg : ∀ (s : Shared) (H : Hp) (C : Addr) (cl : List (Str × Addr)) (fp : List Addr), PG (X.blk s H scope (compEnvC scope cl C X.env) fp) tg g)
    (hk : ∀ (s : Shared) (H : Hp) (C : Addr) (cl : List (Str × Addr)) (fp : List Addr), PE (X.blk s H scope (compEnvC scope cl C X.env) fp) ka ta)
    (he : ∀ (s : Shared) (H : Hp) (C : Addr) (cl : List (Str × Addr)) (fp : List Addr), PE (X.blk s H scope (compEnvC scope cl C X.env) fp) va tb) (hs : ∀ x, foldedSetIterable iter X.env x = pure x)
    (h : tDg tk wi g ta tb (own.map (·.2)) σ H Q)
    (fine : ∀ D C s' m H', Inv X pins σ H' s' → Q (.ref D) H' → s'.heap.Ns C m → FpOk X pins H' C → compPost (model X.prog X.w) X.A X.xe use Qf (.ref D) C (.ok .next) s') :
    wpAny (model X.prog X.w) X.A (comprehension (.DictComp ka va [⟨tg, iter, [], 0⟩] scope pos) scope X.env pos' newDict false (eval iter X.env) use) Qf X.xe s := by
  have cells : ∀ y ∈ scope.names, y.2 = .free → ∃ c, X.env.cells.lookup y.1 = some c := fun y hy e => (ok.free y hy e).elim (fun k => I.ok.has _ (.inl k)) fun k => I.ok.has _ (.inr k)
  refine wpAny_comprehension_free (use := use) rfl hs (closure_ok cells) ok.kind (fun y hy e => by rw [ok.uniq y hy, e]) (thn (hi.run pins s σ H _ I h) fun xv s1 hx => thn hx fun itv s2 h2 => ?_)
  obtain ⟨it, fp, tn, J, H2, rfl, I2, T, st2, f2, q⟩ := h2
  refine wpAny_newObj_type (newEnv_comp ?_)
  have q0 := q s2.heap.objs.size (I2.hok.fresh (Nat.le_refl _))
  have I3 := laid_new (tk := tk) I2
  have small : ∀ b ∈ fp, b < s2.heap.objs.size := fun b hb => let ⟨o, e, _⟩ := T.obj _ _ st2 b hb; Heap.lt_size e
  generalize hD : s2.heap.objs.size = D at q0 I3 small ⊢
  generalize hs3 : ({ s2 with heap := s2.heap.push { cls := .type "dict", data := .dict #[] } } : Shared) = s3 at I3
  obtain ⟨W, ⟨m0, w0⟩, turn⟩ := q0
  have h3 : s3.heap = s2.heap.push { cls := .type "dict", data := .dict #[] } := by rw [← hs3]
  generalize hH3 : upd H2 D (dNew tk) = H3 at I3 w0
  have f3 : ∀ b ∈ fp, FpOk X pins H3 b ∧ b < s3.heap.objs.size := fun b hb => by
    have hlt := small b hb
    refine ⟨⟨?_, (f2 b hb).2⟩, by rw [h3, Heap.size_push, hD]; exact Nat.lt_succ_of_lt hlt⟩
    rw [← hH3, upd_ne (Nat.ne_of_lt hlt)]
    exact (f2 b hb).1
  have st3 : tn 0 s3.heap := T.keep _ _ _ st2 fun b _ o e => by rw [h3]; exact Heap.get?_push_of_some _ e
  have I4 := block_start I3 ok hN f3
  have pg := hg s3 H3 s3.heap.objs.size (cellsFrom (s3.heap.objs.size + 1) scope.names (cloFrom X.env.cells scope.names [])) fp
  have pk := hk s3 H3 s3.heap.objs.size (cellsFrom (s3.heap.objs.size + 1) scope.names (cloFrom X.env.cells scope.names [])) fp
  have pv := he s3 H3 s3.heap.objs.size (cellsFrom (s3.heap.objs.size + 1) scope.names (cloFrom X.env.cells scope.names [])) fp
  show codeAny _ _ (.compStart (.DictComp ka va [⟨tg, iter, [], 0⟩] scope pos) 0 (.ref it) (.ref D) (compEnvC scope (cellsFrom (s3.heap.objs.size + 1) scope.names (cloFrom X.env.cells scope.names [])) s3.heap.objs.size X.env)) (compPost (model X.prog X.w) X.A X.xe use Qf (.ref D) s3.heap.objs.size) { s3 with heap := pushCells (s3.heap.push { cls := .type "dict", data := .dict #[] }) scope.names }
  generalize hce : compEnvC scope (cellsFrom (s3.heap.objs.size + 1) scope.names (cloFrom X.env.cells scope.names [])) s3.heap.objs.size X.env = ce at I4 pg pk pv ⊢
  have cL : ce.locals = s3.heap.objs.size := by subst hce; rfl
  generalize hs4 : ({ s3 with heap := pushCells (s3.heap.push { cls := .type "dict", data := .dict #[] }) scope.names } : Shared) = s4 at I4 ⊢
  have st4 : tn 0 s4.heap := T.keep _ _ _ st3 fun b _ o e => by rw [← hs4]; exact pushCells_keeps _ _ _ _ (Heap.get?_push_of_some _ e)
  have n3 : ∀ b ∈ fp, H3 b = none := fun b hb => (f3 b hb).1.1
  have fpo : ∀ {σ' : L2.St} {H' : Hp} {s' : Shared}, Inv (X.blk s3 H3 scope ce fp) [] σ' H' s' → (∀ b ∈ fp, H' b = none) → ∀ b ∈ fp, FpOk (X.blk s3 H3 scope ce fp) [] H' b := fun {σ' H' s'} I' hn b hb =>
    ⟨hn b hb, (I'.ok.exf b hb).1, I'.ok.exfs b hb, .inl hb, fun x c e => (I'.ok.exf b hb).2 x c e, fun p hp => absurd (show p ∈ ([] : List (Addr × Obj)) ++ [] from hp) (by simp)⟩
  have loop : codeAny (model X.prog X.w) X.A (.compLoop (.DictComp ka va [⟨tg, iter, [], 0⟩] scope pos) 0 (.ref it) (.ref D) ce) (compPost (model X.prog X.w) X.A X.xe use Qf (.ref D) s3.heap.objs.size) s4 := by
    refine compLoop_anyD (fun n s' => ∃ i H', Inv (X.blk s3 H3 scope ce fp) [] (wipe σ (own.map (·.2))) H' s' ∧ tn i s'.heap ∧ (∀ b ∈ fp, H' b = none) ∧ W i n H') ?_ m0 ⟨0, H3, I4, st4, n3, w0⟩
    rintro n s5 ⟨i, H5, I5, st5, n5, w5⟩
    rcases turn i n H5 w5 with ⟨stop, qq⟩ | ⟨go, Nx, hNx, step⟩
    · refine thnF (T.done (X.blk s3 H3 scope ce fp) rfl rfl rfl hc i [] s5 _ H5 (fun _ _ => False) I5 (fpo I5 n5) st5 stop) fun r s6 ⟨hr, I6⟩ => ?_
      subst hr
      have I7 : Inv X pins σ H5 s6 := I3.call' (ch := fp) I6.os I6.base I6.hok I6.bare fun b hb => ⟨(f3 b hb).1.2.2.2.1, (f3 b hb).1.2.1, (f3 b hb).1.2.2.2.2.1, (f3 b hb).1.2.2.2.2.2⟩
      have nC : H5 s3.heap.objs.size = none := by
        have z : H5 ce.locals = none := I6.free
        rwa [cL] at z
      obtain ⟨m, hn, _⟩ := I6.loc
      have hn : s6.heap.Ns ce.locals m := hn
      rw [cL] at hn
      exact fine D s3.heap.objs.size s6 m H5 I7 qq hn (I3.fpOk (Nat.le_refl _) nC)
    · refine thnF (T.item (X.blk s3 H3 scope ce fp) rfl rfl rfl hc i [] s5 _ H5 (fun _ _ => False) I5 (fpo I5 n5) st5 go) fun r s6 ⟨u, hr, h6⟩ => ?_
      subst hr
      refine thnF h6 fun _ s7 ⟨x, H7, I7, r7, y7, st7, n7⟩ => ?_
      refine thnF (pg.run _ s7 _ H7 x u _ (I7.pinned (fpo I7 n7) (T.obj _ _ st7)) r7 (step x H7 y7)) fun _ s8 ⟨σ8, H8, I8, hw8, q8⟩ => ?_
      refine wpAny_tests_nil ?_
      simp only [if_true]
      refine thnF (pk.run _ s8 σ8 H8 _ I8 q8) fun z s10 ⟨yk, H10, I10, r10, q10⟩ => thnF (pv.run _ s10 σ8 H10 _ I10 q10) fun z2 s11 ⟨yv, H11, I11, r11, H12, hput, nx⟩ => ?_
      refine dictSet_put (X := X.blk s3 H3 scope ce fp) hu I11 hput r10 r11 fun s12 I12 => ?_
      obtain ⟨m', hm, w'⟩ := hNx H12 nx
      have pinned : ∀ b ∈ fp, ∀ o, s7.heap.get? b = some o → s12.heap.get? b = some o ∧ H12 b = none := fun b hb o e =>
        let z := I12.pin (b, o) (List.mem_append_right _ (List.mem_append_right _ (mem_pinsAt hb e)))
        ⟨z.1, z.2.1⟩
      refine ⟨m', hm, i + 1, H12, (I12.unpinned (pins := [])).weak (by rw [← hw8, wipe_length]) (fun j v e => ?_), T.keep _ _ _ st7 fun b hb o e => (pinned b hb o e).1, fun b hb => ?_, w'⟩
      · rw [← hw8] at e
        exact (wipe_some e).1
      · obtain ⟨o, e, _⟩ := T.obj _ _ st7 b hb
        exact (pinned b hb o e).2
  exact codeAny_compStart_dict loop (T.self X.A 0 _ _ _ st4 loop)
theorem pe_dg {tk : Bool} {ka va tg iter : Expr} {scope : Scope} {own : List (Str × Nat)} {pos : Pos} {wi : L2.TI} {g : TG} {ta tb : TE} (hc : X.calm = true) (hu : X.A.units + 1 < cLine) (hN : X.N.Nodup) (hi : PI X tg iter wi) (ok : BlkOk X.N X.env.scope scope own)
    (hg : ∀ (s : Shared) (H : Hp) (C : Addr) (cl : List (Str × Addr)) (fp : List Addr), PG (X.blk s H scope (compEnvC scope cl C X.env) fp) tg g)
    (hk : ∀ (s : Shared) (H : Hp) (C : Addr) (cl : List (Str × Addr)) (fp : List Addr), PE (X.blk s H scope (compEnvC scope cl C X.env) fp) ka ta)
    (he : ∀ (s : Shared) (H : Hp) (C : Addr) (cl : List (Str × Addr)) (fp : List Addr), PE (X.blk s H scope (compEnvC scope cl C X.env) fp) va tb) (hs : ∀ x, foldedSetIterable iter X.env x = pure x) :
    PE X (.DictComp ka va [⟨tg, iter, [], 0⟩] scope pos) (tDg tk wi g ta tb (own.map (·.2))) := by
  refine ⟨fun pins s σ H Q I h => ?_⟩
  rw [arm_eval_DictComp]
  refine dg_core hc hu hN I hi ok hg hk he hs h fun D C s' m H' I' q hn f => ⟨m, hn, fun h'' sb => ?_⟩
  obtain ⟨f0, f1, f2, f3, f4, f5⟩ := f
  exact ⟨.ref D, H', I'.turned (t' := s'.toks) (fun b o hb e => (sb.2 b hb).trans e) f0 f1 f3 f4 f5, rfl, q⟩
end
/-- what one turn gives -/
def dcF (k v : Mp.E) (tg : List Nat) (sf : Mp.Sf) (env : List Mp.D) : Mp.D → Mp.R (Mp.D × Mp.D) := fun x => match Mp.setTg tg x env with
  | some env' => (Mp.ev k sf env').bind fun y => (Mp.ev v sf env').bind fun z => .ok (y, z)
  | none => .bad
section
variable {C : Cfg} {G : List Md} {F0 Fz Fz' Fz1 : Addr → Prop} {Hr H H' H1 : Hp} {env env' : List Mp.D} {σ : L2.St} {As : Nat → List Addr} {kd : Kd} {Q : VK} {sf : Mp.Sf} {W : WX}
theorem dcF_ok {k v : Mp.E} {tg : List Nat} {x : Mp.D} {o : Mp.D × Mp.D} (h : dcF k v tg sf env x = .ok o) : ∃ env', Mp.setTg tg x env = some env' ∧ Mp.ev k sf env' = .ok o.1 ∧ Mp.ev v sf env' = .ok o.2 := by
  unfold dcF at h
  cases h1 : Mp.setTg tg x env with
  | none => rw [h1] at h; cases h
  | some env' =>
    rw [h1] at h
    simp only at h
    cases h2 : Mp.ev k sf env' with
    | bad => rw [h2] at h; cases h
    | exc z => rw [h2] at h; cases h
    | ok y =>
      rw [h2] at h
      simp only [Mp.R.bind_ok] at h
      cases h3 : Mp.ev v sf env' with
      | bad => rw [h3] at h; cases h
      | exc z => rw [h3] at h; cases h
      | ok z =>
        rw [h3] at h
        cases h
        exact ⟨env', rfl, h2, h3⟩
theorem dcGo_ok {tk : Bool} {f : Mp.D → Mp.R (Mp.D × Mp.D)} {x d : Mp.D} {xs ks vs : List Mp.D} (h : Mp.dcGo tk f (x :: xs) ks vs = .ok d) : ∃ o, f x = .ok o ∧ Mp.keyD tk o.1 = true ∧ ks.length < Mp.LIM ∧ Mp.dcGo tk f xs (Mp.dputK ks o.1) (Mp.dputV ks vs o.1 o.2) = .ok d := by
  simp only [Mp.dcGo] at h
  cases h1 : f x with
  | bad => rw [h1] at h; cases h
  | exc z => rw [h1] at h; cases h
  | ok o =>
    rw [h1] at h
    simp only [Mp.R.bind_ok] at h
    split at h
    · rename_i hc
      simp only [Bool.and_eq_true, decide_eq_true_eq] at hc
      exact ⟨o, rfl, hc.1, hc.2, h⟩
    · cases h
theorem dcGo_kind {tk : Bool} {f : Mp.D → Mp.R (Mp.D × Mp.D)} : ∀ {xs ks vs : List Mp.D} {d : Mp.D}, Mp.dcGo tk f xs ks vs = .ok d → ∃ ks' vs', d = .dct tk ks' vs'
  | [], ks, vs, d, h => by cases h; exact ⟨_, _, rfl⟩
  | x :: xs, ks, vs, d, h => by
    obtain ⟨o, _, _, _, h⟩ := dcGo_ok h
    exact dcGo_kind h
theorem dctAt_new {tk : Bool} {D : Addr} : DctAt (upd H D (dNew tk)) D tk [] [] := by
  cases tk with
  | true => exact ⟨rfl, [], rfl, upd_same, by simp, List.nodup_nil⟩
  | false => exact ⟨rfl, [], rfl, upd_same, List.nodup_nil⟩
theorem dg_read {K : PySem.W.Frag} (hK : K = C.K) (hk : kd1 kd = true) {tk : Bool} {k v it : Mp.E} {tg : List Nat} (hi : ∀ i ∈ tg, i < G.length) (na : noAls tg G = true) (hw : wkIt it = true → tg.length ≠ 1) (q : tE C G sf W kd (.dc tk k v tg it) σ H Q) :
    tDg tk (tI C G sf W false it) (gT K tg) (tKy C (setFr tg G) sf W0 tk k) (tE C (setFr tg G) sf W0 (.rd 0) v) tg σ H Q := by
  obtain ⟨F0, Fz, Hr, env, As, b, w⟩ := q
  have bb : ∀ {α β γ : Type} (r : Mp.R α) (f : α → Mp.R β) (g : β → Mp.R γ), (r.bind fun x => (f x).bind g) = (r.bind f).bind g := fun r f g => by cases r <;> rfl
  have w : WF C (fun cls dx H' => W cls dx σ H') kd Fz H (((Mp.ev it sf env).bind Mp.items).bind fun xs => (Mp.dcGo tk (dcF k v tg sf env) xs [] []).nox) Q := by
    rw [← bb]
    exact w
  refine ⟨F0, Fz, Hr, env, As, b, (Wg.bind w).imp fun xs exs q J H1 Fz1 Sp S e1 src hS _ D hD => ?_⟩
  cases hgo : Mp.dcGo tk (dcF k v tg sf env) xs [] [] with
  | bad => rw [hgo] at q; exact (show False from q).elim
  | exc z => rw [hgo] at q; exact (show False from q).elim
  | ok dd =>
    rw [hgo] at q
    have q : Fin C Q kd Fz H dd := q
    have hDH : H D = none := e1.same.free hD
    have nD : ¬ Sp D := fun z => by obtain ⟨o, e⟩ := src.dom _ _ D hS z; rw [hD] at e; cases e
    have nF : ¬ Fz1 D := fun z => by obtain ⟨o, e⟩ := e1.trk D z; rw [hD] at e; cases e
    have hrD : Hr D = none := (b.grow e1).ext.same.free hD
    refine ⟨fun i m H' => m = xs.length - i ∧ i ≤ xs.length ∧ ∃ Fz' ks vs us, Mp.dcGo tk (dcF k v tg sf env) (xs.drop i) ks vs = .ok dd ∧ DctAt H' D tk ks us ∧ ValL C Fz' H' vs us ∧ BI C G F0 Fz' Hr env σ H' As ∧ Ext Fz H Fz' H' ∧ S Fz' H' ∧ ¬ Fz' D, ⟨xs.length, by simp, Nat.zero_le _, ?_⟩, ?_⟩
    · have e2 : Ext Fz1 H1 Fz1 (upd H1 D (dNew tk)) := ext_new hD e1.trk
      exact ⟨Fz1, [], [], [], by simpa using hgo, dctAt_new, by simp only [ValL], (b.grow e1).grow e2, e1.trans e2, src.keep _ _ _ _ hS (fun _ h => h) (.of e2.same) (fun a _ o h => e2.same a o h), nF⟩
    · rintro i m H2 ⟨rfl, hle, Fz2, ks, vs, us, hg, hdc, hvl, b2, ex2, hS2, nF2⟩
      by_cases hlt : i < xs.length
      · refine .inr ⟨src.go i Fz2 H2 hS2 hlt, fun H' => i + 1 ≤ xs.length ∧ ∃ Fz' ks vs us, Mp.dcGo tk (dcF k v tg sf env) (xs.drop (i + 1)) ks vs = .ok dd ∧ DctAt H' D tk ks us ∧ ValL C Fz' H' vs us ∧ BI C G F0 Fz' Hr env σ H' As ∧ Ext Fz H Fz' H' ∧ S Fz' H' ∧ ¬ Fz' D, fun H' p => ⟨xs.length - (i + 1), by omega, rfl, p.1, p.2⟩, fun x H3 hyl => ?_⟩
        have hxi : xs[i]? = some xs[i] := by simp [hlt]
        obtain ⟨same3, hv⟩ := src.yld i Fz2 H2 x H3 xs[i] hS2 hxi hyl
        have e3 : Ext Fz2 H2 Fz2 H3 := ⟨same3, fun _ h => h, fun _ h => .inl h, fun a h => by obtain ⟨o, e⟩ := ex2.trk a h; exact ⟨o, same3 a o e⟩⟩
        rw [List.drop_eq_getElem_cons hlt] at hg
        obtain ⟨o, hf, hkey, hlim, hgz⟩ := dcGo_ok hg
        obtain ⟨env', hset, hke, hve⟩ := dcF_ok hf
        have b3 := b2.grow e3
        have bw := BI.wipe b3 tg
        rw [← setTg_un] at hset
        refine gT_okW hK hset bw hv (fun j hj => by rw [wipe_length, ← b.l1]; exact hi j hj) na hw fun σ2 As2 b4 hw => ⟨by rw [hw]; exact wipe_wipe fun _ h => h, F0, Fz2, Hr, env', As2, b4, ?_⟩
        rw [hke]
        intro y H4 Fz4 e4 r4
        refine ⟨F0, Fz4, Hr, env', As2, b4.grow e4, ?_⟩
        rw [hve]
        intro z H5 Fz5 A5 e5 r5 n5 f5
        have eo : Ext Fz2 H2 Fz5 H5 := (e3.trans e4).trans e5
        have b5 := b2.grow eo
        have hdc5 : DctAt H5 D tk ks us := hdc.mv fun o => eo.same D o
        have hvl5 : ValL C Fz5 H5 vs us := ValL.keep eo.sub (.of eo.same) _ _ hvl
        obtain ⟨o', us', hput, hmu, hd', hpair, _⟩ := dct_put hdc5 hvl5 hkey id (KyV.grow e5 r4) (show Val C Fz5 H5 o.2 z from r5.1) hlim
        obtain ⟨o0, ho0, hm0⟩ := hdc5.some
        have nF5 : ¬ Fz5 D := fun z => by
          rcases eo.new D z with z | z
          · exact nF2 z
          · obtain ⟨o1, h1, _⟩ := hdc.some
            rw [z] at h1; cases h1
        have kp : Keep Fz5 H5 (upd H5 D o') := keep_upd ho0 hm0 nF5
        have ne : ∀ a, a ≠ D → ∀ o1, H5 a = some o1 → upd H5 D o' a = some o1 := fun a hn o1 h => by rw [upd_ne hn]; exact h
        refine ⟨_, hput, hlt, Fz5, _, _, us', hgz, hd', valL_iff.mpr (pimp hpair fun d w h => Val.keep (fun _ h => h) kp d w h), ?_, ?_, ?_, nF5⟩
        · refine b5.other kp (fun j a ha => ne a fun z => ?_) (fun a o1 h => ne a (fun z => by subst z; rw [hrD] at h; cases h) o1 (b5.ext.same a o1 h)) fun a h => ?_
          · subst z
            obtain ⟨o1, e, _⟩ := (b.grow e1).mut j a ha
            rw [hD] at e; cases e
          · obtain ⟨o1, e⟩ := eo.trk a h
            by_cases z : a = D
            · subst z; exact ⟨_, upd_same⟩
            · exact ⟨o1, ne a z o1 e⟩
        · have ex5 := ex2.trans eo
          refine ⟨fun a o1 h => ne a (fun z => by subst z; rw [hDH] at h; cases h) o1 (ex5.same a o1 h), ex5.sub, ex5.new, fun a h => ?_⟩
          obtain ⟨o1, e⟩ := ex5.trk a h
          by_cases z : a = D
          · subst z; exact ⟨_, upd_same⟩
          · exact ⟨o1, ne a z o1 e⟩
        · exact src.keep _ _ _ _ (src.keep _ _ _ _ hS2 eo.sub (.of eo.same) fun a _ o h => eo.same a o h) (fun _ h => h) kp fun a hs o1 h => ne a (fun z => nD (z ▸ hs)) o1 h
      · have e : i = xs.length := by omega
        subst e
        refine .inl ⟨src.stop _ Fz2 H2 hS2 (Nat.le_refl _), ?_⟩
        rw [List.drop_length] at hg
        have hg : Mp.R.ok (Mp.D.dct tk ks vs) = Mp.R.ok dd := hg
        cases hg
        -- the whole dict is there
        have ext : Ext Fz H (fun a => Fz2 a ∨ a = D) H2 := ⟨ex2.same, fun a h => .inl (ex2.sub a h), fun a h => by
          rcases h with h | rfl
          · exact ex2.new a h
          · exact .inr hDH, fun a h => by
          rcases h with h | rfl
          · exact ex2.trk a h
          · obtain ⟨o, ho, _⟩ := hdc.some; exact ⟨o, ho⟩⟩
        have vl : Val C (fun a => Fz2 a ∨ a = D) H2 (.dct tk ks vs) (.ref D) := by
          simp only [Val]
          exact ⟨D, us, rfl, .inr rfl, hdc, ValL.keep (fun _ h => .inl h) (.of (Same.refl _)) _ _ hvl⟩
        cases kd with
        | rd j => exact q _ _ _ [] ext ⟨Rd.of_val j _ _ vl, rfl⟩ List.nodup_nil (fun a ha => by cases ha)
        | ow j =>
          have hk' : j = 0 ∨ j = 1 := by have : j ≤ 1 := of_decide_eq_true hk; omega
          rcases hk' with rfl | rfl
          · exact q _ _ _ [] ext ⟨vl, rfl⟩ List.nodup_nil (fun a ha => by cases ha)
          · refine q _ H2 Fz2 [D] ex2 ⟨D, us, rfl, hdc, rfl, hvl⟩ (by simp) fun a ha => ?_
            obtain rfl : a = D := by simpa using ha
            exact ⟨hDH, nF2⟩
end
end MpS

/-! MpX: every expression that comp reads and ck passes. -/
namespace MpS
open PySem PySem.Spec PyProof.Rows L2

/-- a block's scope as it runs -/
def ScR (sc sc' : Scope) : Prop := ∀ x, sc'.names.lookup x = sc.names.lookup x ∨ (sc.names.lookup x = some .free ∧ sc'.names.lookup x = some .cell)
def bltNames : List Str := ["len", "int", "list", "tuple", "sum", "min", "max", "sorted", "abs", "range", "zip", "enumerate", "reversed", "isinstance"]
/-- a class that isinstance may name -/
structure TyO (mg : Str → Option Value) (C : Cfg) (x : Str) (y : Mp.Ty) : Prop where
  ex : ∃ cv u, TyF C y u ∧ ClsV cv u ∧ RelV cv u ∧ ((mg x = some u) ∨ (mg x = none ∧ bootBuiltins x = some u ∧ x ≠ "__name__"))
  nd : (x == ("__debug__" : Str)) = false
/-- what the table says is there -/
structure TOk (P : Program) (w : World) (K : PySem.W.Frag) (mg : Str → Option Value) (base : Heap) (C : Cfg) (T : Tb) (lv : Nat) : Prop where
  fns : ∀ x e, entOf x T.fns = some e → e.lv < lv → FnF P w K mg base C x (Mp.run e.f) e.f.md e.f.rt e.lv
  cls : ∀ x e, entCOf x T.cls = some e → e.lv + 1 < lv → ∃ m ms, e.f.md = m :: ms ∧ MkF P w K mg base C e.c x (Mp.run e.f) ms e.lv
  mts : ∀ m e, e ∈ T.mts → e.nm = m → e.lv < lv → MtF P w K mg base C e.c m (Mp.run e.f) e.f.md e.f.rt e.lv ∧ ClsF C e.c
  fnd : T.FN.Nodup
  att : T.FN ≠ [] → ∀ c, c < C.nc → ClsF C c
  isi : ∀ c, c < C.nc → ClsI C c
  ty : ∀ x y, tyOf T x = some y → TyO mg C x y
  blt : ∀ x ∈ bltNames, mg x = none
  xc : ∀ c, c < C.nx → XcF C c
  xi : ∀ x k, xiOf T x = some k → XiF mg C x k
structure XOk (X : Cx) (C : Cfg) (t : Tc) (sc : Scope) (sf : Mp.Sf) (sg : Sg) (W : WX) : Prop where
  hK : X.K = C.K
  FN : C.FN = t.T.FN
  hN : X.N = t.N
  nd : X.N.Nodup
  calm : t.hot = false → X.calm = true
  un : X.A.units + 65 < cLine
  exs : t.hot = true → HotE X C
  scr : ScR sc X.env.scope
  nn : ∀ x ∈ t.N, (x == ("__debug__" : Str)) = false ∧ (x == ("__classdict__" : Str)) = false
  room : t.hot = false → Room t.lv X.A
  pa : ∀ σ, PassesAt (L2.CX X.prog X.w) X σ (fun cls dx H => W cls dx σ H)
  T : TOk X.prog X.w X.K X.mg X.base C t.T t.lv
  slf : ∀ x, t.slf = some x → t.hot = false → ∃ l, Room l X.A ∧ FnF X.prog X.w X.K X.mg X.base C x sf sg.md sg.rt l
/-- what an expression's text is -/
structure Shp (e : Expr) : Prop where
  ns : NoSt e
  ix : PlainIx e
  fold : ∀ env x, foldedSetIterable e env x = pure x
  inm : ∀ op, behindInMarks op e = false
  asub : ∀ (o : Expr) (p : Pos) (env : Env) (v : Value), assign (.Subscript o e p) env v = (do
      let ov ← holding [v] (eval o env)
      let iv ← holding [v, ov] (eval e env)
      standAt p
      holding [v, ov, iv] (setItem ov iv v)
      release [v, ov, iv] [])
structure Good (X : Cx) (C : Cfg) (G : List Md) (sf : Mp.Sf) (sg : Sg) (W : WX) (e : Expr) (e' : Mp.E) : Prop where
  shp : Shp e
  pe : ∀ kd, ck sg e' G kd = true → PE X e (tE C G sf W kd e')
  pt : ∀ k, ck sg e' G (.rd k) = true → nif e' = true → PT X e (tT C G sf W e')
theorem shp_of {t : Tc} {n : Nat} {sc : Scope} {e : Expr} {e' : Mp.E} (h : comp t n sc e = some e') : Shp e := by
  cases n with
  | zero => cases h
  | succ n =>
    cases e <;> first | (cases h; done) | exact ⟨fun _ _ => rfl, fun _ _ => rfl, fun _ _ => rfl, fun _ => rfl, fun _ _ _ _ => rfl⟩
theorem ixOf_at {x : Str} : ∀ {N : List Str} {k i : Nat}, ixOf x N k = some i → ∃ j, i = k + j ∧ N[j]? = some x
  | [], _, _, h => by cases h
  | y :: ys, k, i, h => by
    unfold ixOf at h
    split at h
    · rename_i e
      cases h
      exact ⟨0, rfl, by simp [e]⟩
    · obtain ⟨j, rfl, e⟩ := ixOf_at h
      exact ⟨j + 1, by omega, by simpa using e⟩
theorem mem_entOf {x : Str} : ∀ {l : List Ent} {e : Ent}, entOf x l = some e → e ∈ l ∧ e.nm = x
  | [], _, h => by cases h
  | y :: ys, e, h => by
    unfold entOf at h
    split at h
    · rename_i q; cases h; exact ⟨List.mem_cons_self, q⟩
    · obtain ⟨h1, h2⟩ := mem_entOf h; exact ⟨List.mem_cons_of_mem _ h1, h2⟩
theorem mem_entC {x : Str} : ∀ {l : List EntC} {e : EntC}, entCOf x l = some e → e ∈ l ∧ e.nm = x
  | [], _, h => by cases h
  | y :: ys, e, h => by
    unfold entCOf at h
    split at h
    · rename_i q; cases h; exact ⟨List.mem_cons_self, q⟩
    · obtain ⟨h1, h2⟩ := mem_entC h; exact ⟨List.mem_cons_of_mem _ h1, h2⟩
theorem meth_of {t : Tc} {m : Str} {e : EntC} (h : methOf t m = some e) : e ∈ t.T.mts ∧ e.nm = m := by
  unfold methOf at h
  split at h
  · have h1 := List.find?_some h
    simp only [Bool.and_eq_true, decide_eq_true_eq] at h1
    exact ⟨List.mem_of_find?_eq_some h, h1.1⟩
  · exact mem_entC h

section
variable {X : Cx} {C : Cfg} {t : Tc} {sc : Scope} {G : List Md} {sf : Mp.Sf} {sg : Sg} {W : WX} {cp : Expr → Option Mp.E}
theorem XOk.vis (o : XOk X C t sc sf sg W) {x : Str} {i : Nat} (h : slotOf t sc x = some i) : X.N[i]? = some x ∧ Vis X.env.scope x ∧ (x == ("__debug__" : Str)) = false ∧ (x == ("__classdict__" : Str)) = false := by
  have key : ixOf x t.N 0 = some i ∧ (sc.names.lookup x = some .local ∨ sc.names.lookup x = some .cell ∨ sc.names.lookup x = some .free) := by
    unfold slotOf at h
    split at h
    · rename_i q; exact ⟨h, .inl q⟩
    · rename_i q; exact ⟨h, .inr (.inl q)⟩
    · rename_i q; exact ⟨h, .inr (.inr q)⟩
    · cases h
  obtain ⟨h1, h2⟩ := key
  obtain ⟨j, e, hj⟩ := ixOf_at h1
  rw [Nat.zero_add] at e
  subst e
  refine ⟨by rw [o.hN]; exact hj, ?_, o.nn x (List.mem_of_getElem? hj)⟩
  rcases o.scr x with q | ⟨_, q⟩
  · unfold Vis
    rw [q]
    exact h2
  · exact .inr (.inl q)
theorem XOk.gl (o : XOk X C t sc sf sg W) {x : Str} (h : isGl sc x = true) : Gl X x := by
  unfold isGl at h
  split at h
  · rename_i q
    rcases o.scr x with z | ⟨z, _⟩
    · show X.env.scope.names.lookup x = some .globalImplicit
      rw [z, q]
    · rw [q] at z; cases z
  · cases h
theorem XOk.units (o : XOk X C t sc sf sg W) : X.A.units + 65 < cLine := o.un
theorem x_args (ih : ∀ e e', cp e = some e' → Good X C G sf sg W e e') : ∀ {es : List Expr} {es' : List Mp.E} {kd : Kd}, mapO cp es = some es' → ckL sg es' G kd = true → Args X C G sf W (List.replicate es'.length kd) es es'
  | [], es', kd, h, _ => by cases h; exact .nil
  | e :: es, es', kd, h, k => by
    unfold mapO at h
    cases q1 : cp e with
    | none => rw [q1] at h; simp at h
    | some x =>
      cases q2 : mapO cp es with
      | none => rw [q1, q2] at h; simp at h
      | some xs =>
        rw [q1, q2] at h
        cases h
        simp only [ckL, Bool.and_eq_true] at k
        obtain ⟨g1, g2, _⟩ := ih e x q1
        exact .cons g1.ns (g2 kd k.1) (x_args ih q2 k.2)
theorem x_argm (ih : ∀ e e', cp e = some e' → Good X C G sf sg W e e') : ∀ {es : List Expr} {es' : List Mp.E} {ms : List Nat}, mapO cp es = some es' → ckA sg es' ms G = true → Args X C G sf W (ms.map Kd.rd) es es'
  | [], es', ms, h, k => by
    cases h
    cases ms with
    | nil => exact .nil
    | cons _ _ => simp [ckA] at k
  | e :: es, es', ms, h, k => by
    unfold mapO at h
    cases q1 : cp e with
    | none => rw [q1] at h; simp at h
    | some x =>
      cases q2 : mapO cp es with
      | none => rw [q1, q2] at h; simp at h
      | some xs =>
        rw [q1, q2] at h
        cases h
        cases ms with
        | nil => simp [ckA] at k
        | cons m ms =>
          simp only [ckA, Bool.and_eq_true] at k
          obtain ⟨g1, g2, _⟩ := ih e x q1
          exact .cons g1.ns (g2 _ k.1) (x_argm ih q2 k.2)
theorem mapO_len {α β : Type} {f : α → Option β} : ∀ {l : List α} {m : List β}, mapO f l = some m → m.length = l.length
  | [], m, h => by cases h; rfl
  | x :: l, m, h => by
    unfold mapO at h
    cases q1 : f x with
    | none => rw [q1] at h; simp at h
    | some y =>
      cases q2 : mapO f l with
      | none => rw [q1, q2] at h; simp at h
      | some ys => rw [q1, q2] at h; cases h; simp [mapO_len q2]
theorem plainD_pe {n : Mp.D} : True := True.intro
theorem g_pe (hK : X.K = C.K) {e : Expr} {e' : Mp.E} (shp : Shp e) (hp : ∀ whole, isTrue e X.env whole = (do let v ← whole; standAt e.pos; holding [v] (truthy v))) (h : ∀ kd, ck sg e' G kd = true → PE X e (tE C G sf W kd e')) : Good X C G sf sg W e e' :=
  ⟨shp, h, fun k hk _ => t_plain hK hp (h _ hk)⟩

theorem x_K (o : XOk X C t sc sf sg W) {c : Const} {j : Nat} {pos : Pos} {e' : Mp.E} (shp : Shp (.Constant c j pos)) (h : compK c = some e') : Good X C G sf sg W (.Constant c j pos) e' := by
  refine g_pe o.hK shp (fun _ => rfl) fun kd _ => ?_
  cases c <;> first | (cases h; done) | (cases h; first | exact e_cst_non | exact e_cst_bl | exact e_cst_int | exact e_cst_str)
theorem x_nm (o : XOk X C t sc sf sg W) {x : Str} {pos : Pos} {e' : Mp.E} (shp : Shp (.Name x pos)) (h : compNm t sc x = some e') : Good X C G sf sg W (.Name x pos) e' := by
  refine g_pe o.hK shp (fun _ => rfl) fun kd k => ?_
  unfold compNm at h
  split at h
  · cases h
  split at h
  case h_2 y hy =>
    split at h
    · rename_i i b hi hb
      cases h
      obtain ⟨h1, h2, h3, h4⟩ := o.vis hi
      simp only [ck] at k
      split at k
      · rename_i b' m j e1 e2
        simp only [Bool.and_eq_true, beq_iff_eq] at k
        obtain ⟨rfl, k⟩ := k
        exact e_nma h1 h2 h3 h4 e1 e2 k
      · cases k
    · cases h
  obtain ⟨i, hi, rfl⟩ := Option.map_eq_some_iff.mp h
  obtain ⟨h1, h2, h3, h4⟩ := o.vis hi
  simp only [ck] at k
  cases q : G[i]? with
  | none => rw [q] at k; simp at k
  | some m =>
    rw [q] at k
    refine e_nm h1 h2 h3 h4 q ?_
    cases kd with
    | rd j => exact k
    | ow j => cases j with
      | zero => exact k
      | succ j => simp at k
theorem x_bin (o : XOk X C t sc sf sg W) (ih : ∀ e e', cp e = some e' → Good X C G sf sg W e e') {a b : Expr} {op : Operator} {pos : Pos} {e' : Mp.E} (shp : Shp (.BinOp a op b pos)) (h : compBin cp a op b = some e') : Good X C G sf sg W (.BinOp a op b pos) e' := by
  refine g_pe o.hK shp (fun _ => rfl) fun kd k => ?_
  unfold compBin at h
  split at h
  · rename_i o' a' b' h1 h2 h3
    cases h
    have ga := (ih _ _ h2).pe
    have gb := (ih _ _ h3).pe
    cases op <;> simp only [opOf] at h1 <;> first | (cases h1; done) | skip
    all_goals (cases h1; simp only [ck, Bool.and_eq_true] at k)
    · exact e_add o.hK k.1.1 (ga _ k.1.2) (gb _ k.2)
    · exact e_sub (ga _ k.1) (gb _ k.2)
    · exact e_mul k.1.1 (ga _ k.1.2) (gb _ k.2)
    · exact e_mod (ga _ k.1) (gb _ k.2)
    · exact e_pow (ga _ k.1) (gb _ k.2)
    · exact e_fdiv (ga _ k.1) (gb _ k.2)
  · cases h
theorem x_un (o : XOk X C t sc sf sg W) (ih : ∀ e e', cp e = some e' → Good X C G sf sg W e e') {a : Expr} {op : UnaryOp} {pos : Pos} {e' : Mp.E} (shp : Shp (.UnaryOp op a pos)) (h : compUn cp op a = some e') : Good X C G sf sg W (.UnaryOp op a pos) e' := by
  unfold compUn at h
  split at h
  · obtain ⟨a', ha, rfl⟩ := Option.map_eq_some_iff.mp h
    exact g_pe o.hK shp (fun _ => rfl) fun kd k => e_neg ((ih _ _ ha).pe _ (by simpa only [ck] using k))
  · obtain ⟨a', ha, rfl⟩ := Option.map_eq_some_iff.mp h
    refine ⟨shp, fun kd k => e_nt o.hK ((ih _ _ ha).pe _ (by simpa only [ck] using k)), fun j k n => t_not ((ih _ _ ha).pt 9 (by simpa only [ck] using k) (by simpa only [nif] using n))⟩
  · cases h
theorem x_bopE (ih : ∀ e e', cp e = some e' → Good X C G sf sg W e e') : ∀ {es : List Expr} {es' : List Mp.E}, mapO cp es = some es' → ckL sg es' G (.rd 0) = true → Paired (fun e e' => PE X e (tE C G sf W (.rd 0) e')) es es' ∧ (nifL es' = true → Paired (fun e e' => PT X e (tT C G sf W e')) es es')
  | [], es', h, _ => by cases h; exact ⟨.nil, fun _ => .nil⟩
  | e :: es, es', h, k => by
    unfold mapO at h
    cases q1 : cp e with
    | none => rw [q1] at h; simp at h
    | some x =>
      cases q2 : mapO cp es with
      | none => rw [q1, q2] at h; simp at h
      | some xs =>
        rw [q1, q2] at h
        cases h
        simp only [ckL, Bool.and_eq_true] at k
        obtain ⟨g1, g2, g3⟩ := ih e x q1
        obtain ⟨i1, i2⟩ := x_bopE ih q2 k.2
        refine ⟨.cons (g2 _ k.1) i1, fun n => ?_⟩
        simp only [nifL, Bool.and_eq_true] at n
        exact .cons (g3 _ k.1 n.1) (i2 n.2)
theorem x_bop (o : XOk X C t sc sf sg W) (ih : ∀ e e', cp e = some e' → Good X C G sf sg W e e') {es : List Expr} {op : BoolOp} {pos : Pos} {e' : Mp.E} (shp : Shp (.BoolOp op es pos)) (h : compBop cp op es = some e') : Good X C G sf sg W (.BoolOp op es pos) e' := by
  unfold compBop at h
  split at h
  · rename_i x xs hm
    cases h
    have ne : es ≠ [] := by rintro rfl; cases hm
    refine ⟨shp, fun kd k => ?_, fun j k n => ?_⟩
    · simp only [ck, Bool.and_eq_true] at k
      exact e_bop o.hK k.1 ne (x_bopE ih hm k.2).1
    · simp only [ck, Bool.and_eq_true] at k
      exact (t_bop ne ((x_bopE ih hm k.2).2 (by simpa only [nif] using n))).pt
  · cases h
theorem isNone_at {b : Expr} (h : isNone b = true) : ∃ j p, b = .Constant .none j p := by
  unfold isNone at h
  split at h
  · exact ⟨_, _, rfl⟩
  · cases h
theorem cmpI_of {o : CmpOp} {o' : Mp.Cp} (h : cpOf o = some o') : (∀ x y, Mp.cmpI o' x y = .bad) ∨ (o = .Lt ∧ o' = .lt) ∨ (o = .LtE ∧ o' = .le) := by
  cases o <;> simp only [cpOf] at h <;> cases h <;> first | exact .inr (.inl ⟨rfl, rfl⟩) | exact .inr (.inr ⟨rfl, rfl⟩) | exact .inl fun _ _ => rfl
theorem cmpI_lt (x y : Mp.D) : Mp.cmpI .lt x y = .bad ∨ ∃ i j, x = .int i ∧ y = .int j ∧ Mp.cmpI .lt x y = .ok (decide (i < j)) := by
  cases x <;> cases y <;> first | exact .inl rfl | exact .inr ⟨_, _, rfl, rfl, rfl⟩
theorem cmpI_le (x y : Mp.D) : Mp.cmpI .le x y = .bad ∨ ∃ i j, x = .int i ∧ y = .int j ∧ Mp.cmpI .le x y = .ok (decide (i ≤ j)) := by
  cases x <;> cases y <;> first | exact .inl rfl | exact .inr ⟨_, _, rfl, rfl, rfl⟩
end
end MpS

/-! MpX2: every expression that comp reads and ck passes, 2. -/
namespace MpS
open PySem PySem.Spec PyProof.Rows L2

section
variable {X : Cx} {C : Cfg} {t : Tc} {sc : Scope} {G : List Md} {sf : Mp.Sf} {sg : Sg} {W : WX} {cp : Expr → Option Mp.E}
theorem cpI_of {o : CmpOp} {o' : Mp.Cp} (h : cpI o = some o') : (o = .Lt ∧ o' = .lt) ∨ (o = .LtE ∧ o' = .le) := by
  cases o <;> simp only [cpI] at h <;> cases h <;> first | exact .inl ⟨rfl, rfl⟩ | exact .inr ⟨rfl, rfl⟩
theorem x_cmp (o : XOk X C t sc sf sg W) (ih : ∀ e e', cp e = some e' → Good X C G sf sg W e e') {a : Expr} {ops : List CmpOp} {bs : List Expr} {pos : Pos} {e' : Mp.E} (shp : Shp (.Compare a ops bs pos)) (h : compCmp cp a ops bs = some e') : Good X C G sf sg W (.Compare a ops bs pos) e' := by
  have hu := o.units
  unfold compCmp at h
  split at h
  · rename_i op b
    split at h
    · rename_i hn
      obtain ⟨j, p, rfl⟩ := isNone_at hn
      split at h
      · obtain ⟨a', ha, rfl⟩ := Option.map_eq_some_iff.mp h
        exact ⟨shp, fun kd k => e_isn ((ih _ _ ha).pe _ (by simpa only [ck] using k)), fun j k n => t_isn ((ih _ _ ha).pe _ (by simpa only [ck] using k))⟩
      · obtain ⟨a', ha, rfl⟩ := Option.map_eq_some_iff.mp h
        exact ⟨shp, fun kd k => e_nisn ((ih _ _ ha).pe _ (by simpa only [ck] using k)), fun j k n => t_nisn ((ih _ _ ha).pe _ (by simpa only [ck] using k))⟩
      · cases h
    · split at h
      · rename_i o' a' b' h1 h2 h3
        cases h
        have ga := (ih _ _ h2).pe
        have gb := (ih _ _ h3).pe
        have hm := (ih _ _ h3).shp.inm
        have key : ∀ {r : R2}, OpR X (compareOp op) r → (∀ (kd : Kd) σ H (Q : VK), tE C G sf W kd (.cmp o' a' b') σ H Q → tOp r (tE C G sf W (.rd 9) a') (tE C G sf W (.rd 9) b') σ H Q) → Good X C G sf sg W (.Compare a [op] [b] pos) (.cmp o' a' b') := fun {r} hop hr =>
          ⟨shp, fun kd k => by
            simp only [ck, Bool.and_eq_true] at k
            exact PE.imp (pe_cmpR hop (ga _ k.1) (gb _ k.2) (hm op)) (hr kd), fun j k n => by
            simp only [ck, Bool.and_eq_true] at k
            exact t_cmpR hop (ga _ k.1) (gb _ k.2) (hm op) (hr _)⟩
        cases op <;> simp only [cpOf] at h1 <;> first | (cases h1; done) | skip
        all_goals cases h1
        · exact key (op_eqD (by omega)) fun kd σ H Q q => r_eq o.hK q
        · exact key (op_neD (by omega)) fun kd σ H Q q => r_ne o.hK q
        · exact key (op_lt.or (op_ltT (by omega))) fun kd σ H Q q => r_lt o.hK q
        · exact key op_le fun kd σ H Q q => r_le q
        · exact key op_gt fun kd σ H Q q => r_gt q
        · exact key op_ge fun kd σ H Q q => r_ge q
        · exact key (op_mem hu) fun kd σ H Q q => r_mem o.hK q
        · exact key (op_nmem hu) fun kd σ H Q q => r_nmem o.hK q
      · cases h
  · rename_i o1 o2 b c
    split at h
    · rename_i p q a' b' c' h1 h2 h3 h4 h5
      cases h
      have ga := (ih _ _ h3).pe
      have gb := (ih _ _ h4).pe
      have gc := (ih _ _ h5).pe
      have hm : lastMarks [o1, o2] [b, c] = false := by
        show behindInMarks o2 c = false
        exact (ih _ _ h5).shp.inm o2
      have key : ∀ {r r' : R2}, OpR X (compareOp o1) r → OpR X (compareOp o2) r' → (∀ (kd : Kd) σ H (Q : VK), tE C G sf W kd (.chn p q a' b' c') σ H Q → tChain r r' (tE C G sf W (.rd 9) a') (tE C G sf W (.rd 9) b') (tE C G sf W (.rd 9) c') σ H Q) →
          Good X C G sf sg W (.Compare a [o1, o2] [b, c] pos) (.chn p q a' b' c') := fun {r r'} hop hop' hr =>
        ⟨shp, fun kd k => by
          simp only [ck, Bool.and_eq_true] at k
          exact PE.imp (pe_chain hop hop' (ga _ k.1.1) (gb _ k.1.2) (gc _ k.2) hm) (hr kd), fun j k n => by
          simp only [ck, Bool.and_eq_true] at k
          exact t_chn hop hop' (ga _ k.1.1) (gb _ k.1.2) (gc _ k.2) hm (hr _)⟩
      rcases cpI_of h1 with ⟨rfl, rfl⟩ | ⟨rfl, rfl⟩ <;> rcases cpI_of h2 with ⟨rfl, rfl⟩ | ⟨rfl, rfl⟩
      · exact key op_lt op_lt fun kd σ H Q q => r_chn (p1 := fun i j => decide (i < j)) (p2 := fun i j => decide (i < j)) cmpI_lt cmpI_lt q
      · exact key op_lt op_le fun kd σ H Q q => r_chn (p1 := fun i j => decide (i < j)) (p2 := fun i j => decide (i ≤ j)) cmpI_lt cmpI_le q
      · exact key op_le op_lt fun kd σ H Q q => r_chn (p1 := fun i j => decide (i ≤ j)) (p2 := fun i j => decide (i < j)) cmpI_le cmpI_lt q
      · exact key op_le op_le fun kd σ H Q q => r_chn (p1 := fun i j => decide (i ≤ j)) (p2 := fun i j => decide (i ≤ j)) cmpI_le cmpI_le q
    · cases h
  · cases h
/-- a test of IfExp is never asked for -/
theorem x_if (o : XOk X C t sc sf sg W) (ih : ∀ e e', cp e = some e' → Good X C G sf sg W e e') {a b c : Expr} {pos : Pos} {e' : Mp.E} (shp : Shp (.IfExp c a b pos)) (h : compIf cp c a b = some e') : Good X C G sf sg W (.IfExp c a b pos) e' := by
  unfold compIf at h
  split at h
  · rename_i c' a' b' h1 h2 h3
    cases h
    refine ⟨shp, fun kd k => ?_, fun j k n => ?_⟩
    · simp only [ck, Bool.and_eq_true] at k
      exact e_ife ((ih _ _ h1).pt 9 k.1.1.2 k.1.1.1) ((ih _ _ h2).pe _ k.1.2) ((ih _ _ h3).pe _ k.2)
    · simp [nif] at n
  · cases h
theorem x_tup (o : XOk X C t sc sf sg W) (ih : ∀ e e', cp e = some e' → Good X C G sf sg W e e') {es : List Expr} {x1} {pos : Pos} {e' : Mp.E} (shp : Shp (.Tuple es x1 pos)) (h : compTup cp es = some e') : Good X C G sf sg W (.Tuple es x1 pos) e' := by
  unfold compTup at h
  split at h
  · rename_i hl
    obtain ⟨es', he, rfl⟩ := Option.map_eq_some_iff.mp h
    refine g_pe o.hK shp (fun _ => rfl) fun kd k => e_tup hl (x_args ih he (by simpa only [ck] using k))
  · cases h
theorem x_lst (o : XOk X C t sc sf sg W) (ih : ∀ e e', cp e = some e' → Good X C G sf sg W e e') {es : List Expr} {pos : Pos} {e' : Mp.E} (shp : Shp (.List es pos)) (h : compLst cp es = some e') : Good X C G sf sg W (.List es pos) e' := by
  unfold compLst at h
  split at h
  · rename_i hl
    obtain ⟨es', he, rfl⟩ := Option.map_eq_some_iff.mp h
    refine g_pe o.hK shp (fun _ => rfl) fun kd k => ?_
    cases kd with
    | rd j => exact e_lst0 hl rfl (x_args ih he (by simpa only [ck] using k))
    | ow j => cases j with
      | zero => exact e_lst0 hl rfl (x_args ih he (by simpa only [ck] using k))
      | succ j => exact e_lstO hl (x_args ih he (by simpa only [ck] using k))
  · cases h
theorem x_dct (o : XOk X C t sc sf sg W) {ks : List (Option Expr)} {vs : List Expr} {pos : Pos} {e' : Mp.E} (shp : Shp (.Dict ks vs pos)) (h : compDct ks vs = some e') : Good X C G sf sg W (.Dict ks vs pos) e' := by
  unfold compDct at h
  split at h
  · cases h
    exact g_pe o.hK shp (fun _ => rfl) fun kd k => e_dctT (by simpa only [ck] using k)
  · cases h
theorem x_part (ih : ∀ e e', cp e = some e' → Good X C G sf sg W e e') {lo : Option Expr} {l : List Mp.E} (h : compO cp lo = some l) (k : ckL sg l G (.rd 9) = true) : PO X lo (tP C G sf W l) := by
  cases lo with
  | none => cases h; exact p_none
  | some e =>
    obtain ⟨a', ha, rfl⟩ := Option.map_eq_some_iff.mp (show (cp e).map (fun x => [x]) = some l from h)
    simp only [ckL, Bool.and_eq_true] at k
    exact p_some ((ih _ _ ha).pe _ k.1)
theorem x_sub (o : XOk X C t sc sf sg W) (ih : ∀ e e', cp e = some e' → Good X C G sf sg W e e') {a b : Expr} {pos : Pos} {e' : Mp.E} (shp : Shp (.Subscript a b pos)) (h : compSub cp a b = some e') : Good X C G sf sg W (.Subscript a b pos) e' := by
  have hu := o.units
  refine g_pe o.hK shp (fun _ => rfl) fun kd k => ?_
  unfold compSub at h
  split at h
  · split at h
    · split at h
      · rename_i a' l hh h1 h2 h3
        cases h
        simp only [ck, Bool.and_eq_true] at k
        exact e_sl o.hK k.1.1.1 ((ih _ _ h1).pe _ k.1.1.2) (x_part ih h2 k.1.2) (x_part ih h3 k.2)
      · cases h
    · cases h
  · split at h
    · rename_i a' b' h1 h2
      cases h
      have hx := (ih _ _ h2).shp.ix
      simp only [ck] at k
      cases kd with
      | rd j =>
        simp only [Bool.and_eq_true] at k
        exact e_ix o.hK (by omega) (ka := j + 1) rfl hx ((ih _ _ h1).pe _ k.1) ((ih _ _ h2).pe _ k.2)
      | ow j => cases j with
        | zero =>
          simp only [Bool.and_eq_true] at k
          exact e_ix o.hK (by omega) (ka := 1) rfl hx ((ih _ _ h1).pe _ k.1) ((ih _ _ h2).pe _ k.2)
        | succ j => simp at k
    · cases h
/-- a caught exception's slot -/
theorem xSlot_of {e : Expr} {j : Nat} (h : xSlot t sc e = some j) : ∃ x p, e = .Name x p ∧ t.hot = true ∧ slotOf t sc x = some j := by
  unfold xSlot at h
  split at h
  · rename_i x p
    split at h
    · rename_i hc
      simp only [Bool.and_eq_true] at hc
      exact ⟨x, p, rfl, hc.2, h⟩
    · cases h
  · cases h
theorem x_att (o : XOk X C t sc sf sg W) (ih : ∀ e e', cp e = some e' → Good X C G sf sg W e e') {a : Expr} {f : Str} {pos : Pos} {e' : Mp.E} (shp : Shp (.Attribute a f pos)) (h : compAtt t cp sc a f = some e') : Good X C G sf sg W (.Attribute a f pos) e' := by
  refine g_pe o.hK shp (fun _ => rfl) fun kd k => ?_
  unfold compAtt at h
  split at h
  · rename_i j hj
    obtain ⟨i, h2, rfl⟩ := Option.map_eq_some_iff.mp h
    obtain ⟨x, p, rfl, hh, hs⟩ := xSlot_of hj
    obtain ⟨i, e, hi⟩ := ixOf_at h2
    rw [Nat.zero_add] at e
    subst e
    obtain ⟨g1, g2, g3, g4⟩ := o.vis hs
    simp only [ck, Bool.and_eq_true] at k
    refine e_xat o.hK (o.exs hh) k.1 g1 g2 g3 g4 ?_ (by rw [o.FN]; exact hi) o.T.xc
    have k2 := k.2
    split at k2
    · assumption
    · cases k2
  · split at h
    · rename_i a' i h1 h2
      split at h
      · rename_i h0
        cases h
        obtain ⟨j, e, hj⟩ := ixOf_at h2
        rw [Nat.zero_add] at e
        subst e
        simp only [ck, Bool.and_eq_true] at k
        refine e_att o.hK k.1 (by rw [o.FN]; exact hj) (o.T.att fun z => ?_) ((ih _ _ h1).pe _ k.2) h0
        rw [z] at hj; cases hj
      · cases h
    · cases h
theorem x_rvs (o : XOk X C t sc sf sg W) (ih : ∀ e e', cp e = some e' → Good X C G sf sg W e e') {a b : Expr} {pos : Pos} {e' : Mp.E} (hb : rvsOf b = true) (shp : Shp (.Subscript a b pos)) (h : (cp a).map Mp.E.rvs = some e') : Good X C G sf sg W (.Subscript a b pos) e' := by
  refine g_pe o.hK shp (fun _ => rfl) fun kd k => ?_
  obtain ⟨a', ha, rfl⟩ := Option.map_eq_some_iff.mp h
  unfold rvsOf at hb
  split at hb
  · simp only [ck, Bool.and_eq_true] at k
    refine PE.imp (pe_revL ((ih _ _ ha).pe _ k.2)) fun σ H Q ⟨F0, Fz, Hr, env, As, b, w⟩ => ?_
    refine go b w fun x v H1 Fz1 A1 ex e1 b1 r1 n1 f1 w1 => ?_
    cases x <;> try exact (show False from w1).elim
    rename_i ds
    obtain ⟨p, us, rfl, hp, l⟩ := Rd.lst r1.1
    have w1 : Fin C Q kd Fz1 H1 (.lst ds.reverse) := w1
    have rv : ∀ {P : Mp.D → V → Prop} {ds : List Mp.D} {us : List V}, Paired P ds us → Paired P ds.reverse us.reverse := by
      intro P ds us l
      induction l with
      | nil => exact .nil
      | cons a _ ih =>
        rw [List.reverse_cons, List.reverse_cons]
        exact pap ih (.cons a .nil)
    exact ⟨p, us, rfl, SqL.of hp, fun q hq => fin_lst w1 b1.ext.trk k.1 hq (rv l)⟩
  · cases hb
theorem x_isi (o : XOk X C t sc sf sg W) (ih : ∀ e e', cp e = some e' → Good X C G sf sg W e e') {p pos : Pos} {args : List Expr} {e' : Mp.E} (hg : Gl X "isinstance") (shp : Shp (.Call (.Name "isinstance" p) args [] pos)) (h : compIsi t cp sc args = some e') : Good X C G sf sg W (.Call (.Name "isinstance" p) args [] pos) e' := by
  refine g_pe o.hK shp (fun _ => rfl) fun kd k => ?_
  unfold compIsi at h
  split at h
  · rename_i a ty p2
    split at h
    · rename_i j hj
      split at h
      · rename_i hgl
        obtain ⟨kk, hk, rfl⟩ := Option.map_eq_some_iff.mp h
        obtain ⟨x, p3, rfl, hh, hs⟩ := xSlot_of hj
        obtain ⟨g1, g2, g3, g4⟩ := o.vis hs
        refine e_xis o.hK (o.exs hh) g1 g2 g3 g4 ?_ hg (o.T.blt _ (by decide)) (o.gl hgl) (o.T.xi _ _ hk) o.T.xc
        simp only [ck] at k
        split at k
        · assumption
        · cases k
      · cases h
    · split at h
      · cases h
      · split at h
        · rename_i a' y h1 h2
          cases h
          have hgl : isGl sc ty = true ∧ tyOf t.T ty = some y := by
            split at h2
            · rename_i q; exact ⟨q, h2⟩
            · cases h2
          obtain ⟨⟨cv, u, hy, hc, hr, hm⟩, hnd⟩ := o.T.ty ty y hgl.2
          have hT : PE X (.Name ty p2) (L2.tC cv) := by
            rcases hm with hm | ⟨hm, hb, hn⟩
            · exact pe_glob (o.gl hgl.1) hm hr hnd
            · exact pe_bltn (o.gl hgl.1) hm hb hr hn hnd
          exact e_isi o.hK hg (o.T.blt _ (by decide)) (ih _ _ h1).shp.ns (fun _ _ => rfl) hy o.T.isi hT hc ((ih _ _ h1).pe _ (by simpa only [ck] using k))
        · cases h
  · cases h
theorem x_meth (o : XOk X C t sc sf sg W) (hh : t.hot = false) (ih : ∀ e e', cp e = some e' → Good X C G sf sg W e e') {a : Expr} {m : Str} {apos pos : Pos} {args : List Expr} {e' : Mp.E} (shp : Shp (.Call (.Attribute a m apos) args [] pos)) (h : compMeth t cp a m apos args pos = some e') : Good X C G sf sg W (.Call (.Attribute a m apos) args [] pos) e' := by
  have hu := o.units
  refine g_pe o.hK shp (fun _ => rfl) fun kd k => ?_
  unfold compMeth at h
  split at h
  · rename_i a' as h1 h2
    split at h
    · cases h
    · rename_i hc
      simp only [Bool.or_eq_true, not_or, Bool.not_eq_true, Bool.not_eq_false', decide_eq_true_eq] at hc
      obtain ⟨⟨c2, c3⟩, c4⟩ := hc
      have c2 : noCall0 a = true := by simpa using c2
      have c3 : (apos.endLine == pos.line) = true := by simpa using c3
      have c4 : args.length < 30 := by simpa using c4
      split at h
      · rename_i en hm
        split at h
        · rename_i hlv'
          simp only [Bool.and_eq_true, decide_eq_true_eq, Bool.not_eq_true'] at hlv'
          obtain ⟨hlv, c1⟩ := hlv'
          cases h
          obtain ⟨m1, m2⟩ := meth_of hm
          obtain ⟨F, hcl⟩ := o.T.mts m en m1 m2 hlv
          simp only [ck, Bool.and_eq_true] at k
          obtain ⟨k1, k2⟩ := k
          cases hmd : en.f.md with
          | nil => rw [hmd] at k2; simp at k2
          | cons m0 ms =>
            rw [hmd] at k2 F
            simp only [Bool.and_eq_true] at k2
            refine e_meth o.hK hmd F (fun f hf z => ?_) hcl ((o.room hh).mono (by omega)) o.pa c2 c3 c4 (by cases kd <;> simpa [kdLe] using k1) ((ih _ _ h1).pe _ k2.1) (x_argm ih h2 k2.2)
            subst z
            rw [o.FN] at hf
            have : t.T.FN.contains f = true := by simpa using hf
            rw [this] at c1
            cases c1
        · cases h
      · split at h
        · rename_i e0
          subst e0
          split at h
          · rename_i k0
            cases h
            cases args with
            | nil => cases h2
            | cons b args =>
              have hl := mapO_len h2
              cases args with
              | cons _ _ => simp at hl
              | nil =>
                simp only [ck, ckL, Bool.and_eq_true] at k
                obtain ⟨⟨k1, k2⟩, k3, _⟩ := k
                have hb : cp b = some k0 := by
                  unfold mapO at h2
                  cases q1 : cp b with
                  | none => rw [q1] at h2; simp at h2
                  | some x => rw [q1] at h2; simp [mapO] at h2; rw [h2]
                exact e_get (by omega) k1 c2 c3 (ih _ _ hb).shp.ns ((ih _ _ h1).pe _ k2) ((ih _ _ hb).pe _ k3)
          · rename_i k0 d0
            cases h
            cases args with
            | nil => cases h2
            | cons b args =>
              have hl := mapO_len h2
              cases args with
              | nil => simp at hl
              | cons c args =>
                cases args with
                | cons _ _ => simp at hl
                | nil =>
                  simp only [ck, ckL, Bool.and_eq_true] at k
                  obtain ⟨⟨k1, k2⟩, k3, k4, _⟩ := k
                  have hb : cp b = some k0 ∧ cp c = some d0 := by
                    unfold mapO at h2
                    cases q1 : cp b with
                    | none => rw [q1] at h2; simp at h2
                    | some x =>
                      rw [q1] at h2
                      simp only [mapO] at h2
                      cases q2 : cp c with
                      | none => rw [q2] at h2; simp at h2
                      | some y => rw [q2] at h2; simp at h2; rw [h2.1, h2.2]; exact ⟨rfl, rfl⟩
                  exact e_get2 (by omega) k1 c2 c3 (ih _ _ hb.1).shp.ns (ih _ _ hb.2).shp.ns ((ih _ _ h1).pe _ k2) ((ih _ _ hb.1).pe _ k3) ((ih _ _ hb.2).pe _ k4)
          · cases h
        · split at h
          · rename_i e0
            subst e0
            split at h
            · rename_i k0
              cases h
              cases args with
              | nil => cases h2
              | cons b args =>
                have hl := mapO_len h2
                cases args with
                | cons _ _ => simp at hl
                | nil =>
                  simp only [ck, ckL, Bool.and_eq_true] at k
                  obtain ⟨k2, k3, _⟩ := k
                  have hb : cp b = some k0 := by
                    unfold mapO at h2
                    cases q1 : cp b with
                    | none => rw [q1] at h2; simp at h2
                    | some x => rw [q1] at h2; simp [mapO] at h2; rw [h2]
                  exact e_index o.hK hu c2 c3 (ih _ _ hb).shp.ns ((ih _ _ h1).pe _ k2) ((ih _ _ hb).pe _ k3)
            · cases h
          · cases h
  · cases h
end
end MpS

/-! MpX3: every expression that comp reads and ck passes, 3. -/
namespace MpS
open PySem PySem.Spec PyProof.Rows L2

section
variable {X : Cx} {C : Cfg} {t : Tc} {sc : Scope} {G : List Md} {sf : Mp.Sf} {sg : Sg} {W : WX} {cp : Expr → Option Mp.E} {kd : Kd}
theorem callR_or {f : Value} {r r' : List V → Hp → VK → Prop} (h : CallR X f r) (h' : CallR X f r') : CallR X f (fun xs H Q => r xs H Q ∨ r' xs H Q) := fun pins s σ H xs us Q I v q => by
  rcases q with q | q
  · exact h pins s σ H xs us Q I v q
  · exact h' pins s σ H xs us Q I v q
/-- two lengths -/
theorem bltR_or {b : Mp.Blt} {ks : List Kd} {r r' : List V → Hp → VK → Prop} (h : BltR C b kd ks r) : BltR C b kd ks (fun xs H Q => r xs H Q ∨ r' xs H Q) := fun ds vs A Fz H Q E trk q w => .inl (h ds vs A Fz H Q E trk q w)
theorem len1 {es : List Expr} {es' : List Mp.E} {f : Expr → Option Mp.E} (h : mapO f es = some es') (hl : es'.length = 1) : ∃ a a', es = [a] ∧ es' = [a'] := by
  have e := mapO_len h
  obtain ⟨a', rfl⟩ := List.length_eq_one_iff.mp hl
  obtain ⟨a, rfl⟩ := List.length_eq_one_iff.mp (by simpa using e.symm : es.length = 1)
  exact ⟨a, a', rfl, rfl⟩
theorem len2 {es : List Expr} {es' : List Mp.E} {f : Expr → Option Mp.E} (h : mapO f es = some es') (hl : es'.length = 2) : ∃ a b a' b', es = [a, b] ∧ es' = [a', b'] := by
  have e := mapO_len h
  rw [hl] at e
  match es, es', hl, e with
  | [], _, _, e => simp at e
  | [_], _, _, e => simp at e
  | _ :: _ :: _ :: _, _, _, e => simp at e
  | [a, b], [], hl, _ => simp at hl
  | [a, b], [_], hl, _ => simp at hl
  | [a, b], _ :: _ :: _ :: _, hl, _ => simp at hl
  | [a, b], [a', b'], _, _ => exact ⟨a, b, a', b', rfl, rfl⟩
theorem x_blt (o : XOk X C t sc sf sg W) (hh : t.hot = false) (ih : ∀ e e', cp e = some e' → Good X C G sf sg W e e') {x : Str} {b : Mp.Blt} {p pos : Pos} {args : List Expr} {as : List Mp.E} (hg : Gl X x) (hb : bltOf x = some b) (hm : mapO cp args = some as) (hl : as.length = 1 ∨ (as.length = 2 ∧ (x = "min" ∨ x = "max")))
    (k : ck sg (.blt b as) G kd = true) : PE X (.Call (.Name x p) args [] pos) (tE C G sf W kd (.blt b as)) := by
  have hc := o.calm hh
  have hK := o.hK
  have bl := o.T.blt
  unfold bltOf at hb
  rcases hl with hl | ⟨hl, hx⟩
  · obtain ⟨a, a', rfl, rfl⟩ := len1 hm hl
    have k9 : ckL sg [a'] G (.rd 9) = true → Args X C G sf W [.rd 9] [a] [a'] := fun k => x_args ih hm k
    have k1 : ckL sg [a'] G (.rd 1) = true → Args X C G sf W [.rd 1] [a] [a'] := fun k => x_args ih hm k
    split at hb
    · rename_i e; cases hb; subst e
      exact e_bltB (e' := a') call_len hg (bl _ (by decide)) (by first | rfl | decide +kernel) (by decide) (by decide) (b_len hK) (k9 (by simpa only [ck] using k))
    · split at hb
      · rename_i e; cases hb; subst e
        exact e_bltT (e' := a') call_int1 hg (bl _ (by decide)) (by first | rfl | decide +kernel) (by decide) (by decide) b_int (k9 (by simpa only [ck] using k))
      · split at hb
        · rename_i e; cases hb; subst e
          simp only [ck, Bool.and_eq_true] at k
          exact e_bltT (e' := a') call_list_of hg (bl _ (by decide)) (by first | rfl | decide +kernel) (by decide) (by decide) (b_list hK k.1) (k1 k.2)
        · split at hb
          · rename_i e; cases hb; subst e
            exact e_bltT (e' := a') call_tupF hg (bl _ (by decide)) (by first | rfl | decide +kernel) (by decide) (by decide) (b_tuple hK) (k1 (by simpa only [ck] using k))
          · split at hb
            · rename_i e; cases hb; subst e
              exact e_bltB (e' := a') (cr_sum hc) hg (bl _ (by decide)) (by first | rfl | decide +kernel) (by decide) (by decide) b_sum (k9 (by simpa only [ck] using k))
            · split at hb
              · rename_i e; cases hb; subst e
                exact e_bltB (e' := a') (callR_or' (cr_min hc) (cr_minT hc)) hg (bl _ (by decide)) (by first | rfl | decide +kernel) (by decide) (by decide) (b_minA hK) (k9 (by simpa only [ck] using k))
              · split at hb
                · rename_i e; cases hb; subst e
                  exact e_bltB (e' := a') (cr_max hc) hg (bl _ (by decide)) (by first | rfl | decide +kernel) (by decide) (by decide) b_max (k9 (by simpa only [ck] using k))
                · split at hb
                  · rename_i e; cases hb; subst e
                    simp only [ck, Bool.and_eq_true] at k
                    exact e_bltB (e' := a') (callR_or (callR_or cr_sortedI cr_sortT) cr_sortTT) hg (bl _ (by decide)) (by first | rfl | decide +kernel) (by decide) (by decide) (b_sorted hK k.1) (k1 k.2)
                  · split at hb
                    · rename_i e; cases hb; subst e
                      exact e_bltB (e' := a') call_abs hg (bl _ (by decide)) (by first | rfl | decide +kernel) (by decide) (by decide) b_abs (k9 (by simpa only [ck] using k))
                    · cases hb
  · obtain ⟨a, a2, a', a2', rfl, rfl⟩ := len2 hm hl
    have k9 : ckL sg [a', a2'] G (.rd 9) = true → Args X C G sf W [.rd 9, .rd 9] [a, a2] [a', a2'] := fun k => x_args ih hm k
    rcases hx with rfl | rfl
    · have e : b = .min := by
        revert hb
        simp only [show ¬ (("min" : Str) = "len") by decide, show ¬ (("min" : Str) = "int") by decide, show ¬ (("min" : Str) = "list") by decide, show ¬ (("min" : Str) = "tuple") by decide, show ¬ (("min" : Str) = "sum") by decide, if_false, if_true]
        intro h; cases h; rfl
      subst e
      exact e_bltB (e' := a') (call_min2 hc) hg (bl _ (by decide)) (by first | rfl | decide +kernel) (by decide) (by decide) b_min2 (k9 (by simpa only [ck] using k))
    · have e : b = .max := by
        revert hb
        simp only [show ¬ (("max" : Str) = "len") by decide, show ¬ (("max" : Str) = "int") by decide, show ¬ (("max" : Str) = "list") by decide, show ¬ (("max" : Str) = "tuple") by decide, show ¬ (("max" : Str) = "sum") by decide, show ¬ (("max" : Str) = "min") by decide, if_false, if_true]
        intro h; cases h; rfl
      subst e
      exact e_bltB (e' := a') (call_max2 hc) hg (bl _ (by decide)) (by first | rfl | decide +kernel) (by decide) (by decide) b_max2 (k9 (by simpa only [ck] using k))
theorem x_call (o : XOk X C t sc sf sg W) (hh : t.hot = false) (ih : ∀ e e', cp e = some e' → Good X C G sf sg W e e') {x : Str} {p pos : Pos} {args : List Expr} {e' : Mp.E} (hg : Gl X x) (shp : Shp (.Call (.Name x p) args [] pos)) (h : compCall t cp sc x args = some e') : Good X C G sf sg W (.Call (.Name x p) args [] pos) e' := by
  refine g_pe o.hK shp (fun _ => rfl) fun kd k => ?_
  unfold compCall at h
  split at h
  · cases h
  · rename_i as hm
    split at h
    · rename_i hs
      cases h
      simp only [ck, Bool.and_eq_true] at k
      obtain ⟨l, hl, F⟩ := o.slf x hs hh
      exact e_callG (g := sf) (fun env => rfl) F hl hg o.pa (by cases kd <;> simpa [kdLe] using k.1) (x_argm ih hm k.2)
    · split at h
      · rename_i en hen
        split at h
        · rename_i hlv
          cases h
          simp only [ck, Bool.and_eq_true] at k
          exact e_callG (g := Mp.run en.f) (fun env => rfl) (o.T.fns x en hen hlv) ((o.room hh).mono (by omega)) hg o.pa (by cases kd <;> simpa [kdLe] using k.1) (x_argm ih hm k.2)
        · cases h
      · split at h
        · rename_i en hen
          split at h
          · rename_i hlv
            cases h
            obtain ⟨m, ms, hmd, F⟩ := o.T.cls x en hen hlv
            simp only [ck, Bool.and_eq_true, hmd] at k
            exact e_mk F ((o.room hh).mono (by omega)) hg o.pa k.1 (x_argm ih hm k.2)
          · cases h
        · split at h
          · rename_i b hb
            split at h
            · rename_i hl
              cases h
              refine x_blt o hh ih hg hb hm ?_ k
              simpa using hl
            · cases h
          · cases h
/-- list(range(..)) -/
theorem prg_vals {Fz : Addr → Prop} {H : Hp} (i j : Int) : Paired (Val C Fz H) (Mp.rngL i j) (rgV i j) := by
  unfold Mp.rngL rgV
  generalize List.range (j - i).toNat = l
  induction l with
  | nil => exact .nil
  | cons n l ih => exact .cons (by simp only [Val]) ih
theorem e_lrg {r : Expr} {x y : Mp.E} {p pos : Pos} {te : L2.St → Hp → (Int → Int → Hp → Prop) → Prop} (hc : X.calm = true) (hg : Gl X "list") (hm : X.mg "list" = none) (hr : PRg X r te) (hn : NoSt r) (hk : kd1 kd = true)
    (h : ∀ σ H (Q : Int → Int → Hp → Prop), (∃ F0 Fz Hr env As, BI C G F0 Fz Hr env σ H As ∧ Wg C (fun cls dx H' => W cls dx σ H') Fz H ((Mp.ev x sf env).bind fun i => (Mp.ev y sf env).bind fun j => Mp.rngD i j) fun d => ∀ i j H' Fz', Ext Fz H Fz' H' → RgOk i j → d = .lst (Mp.rngL i j) → Q i j H') → te σ H Q) :
    PE X (.Call (.Name "list" p) [r] [] pos) (tE C G sf W kd (.blt .list [.rng x y])) := by
  refine PE.imp (pe_listRg hc hg hm hr (hn [] X.env)) fun σ H Q ⟨F0, Fz, Hr, env, As, b, w⟩ => h σ H _ ⟨F0, Fz, Hr, env, As, b, ?_⟩
  have bb : ∀ {α β γ : Type} (r : Mp.R α) (f : α → Mp.R β) (g : β → Mp.R γ), (r.bind f).bind g = r.bind fun x => (f x).bind g := fun r f g => by cases r <;> rfl
  have w : WF C (fun cls dx H' => W cls dx σ H') kd Fz H (((Mp.ev x sf env).bind fun i => (Mp.ev y sf env).bind fun j => Mp.rngD i j).bind fun d => Mp.bltD .list [d]) Q := by
    have e : Mp.ev (.blt .list [.rng x y]) sf env = ((Mp.ev x sf env).bind fun i => (Mp.ev y sf env).bind fun j => Mp.rngD i j).bind fun d => Mp.bltD .list [d] := by
      simp only [Mp.ev, Mp.evs, bb, Mp.R.bind_ok]
    rw [← e]
    exact w
  refine (Wg.bind w).imp fun d ed q i j H' Fz' e ok hd => ⟨ok, fun p hp => ?_⟩
  subst hd
  have q : Fin C Q kd Fz H (.lst (Mp.rngL i j)) := q
  exact fin_lst (Fin.mono e q) e.trk hk hp (prg_vals i j)
theorem x_lrg (o : XOk X C t sc sf sg W) (hh : t.hot = false) (ih : ∀ e e', cp e = some e' → Good X C G sf sg W e e') {p pos : Pos} {r : Expr} {r' : Mp.E} (hg : Gl X "list") (shp : Shp (.Call (.Name "list" p) [r] [] pos)) (h : compRng cp sc r = some r') : Good X C G sf sg W (.Call (.Name "list" p) [r] [] pos) (.blt .list [r']) := by
  refine g_pe o.hK shp (fun _ => rfl) fun kd k => ?_
  have bl := o.T.blt
  unfold compRng at h
  split at h
  · rename_i x p2 args pos2
    split at h
    · rename_i hx
      simp only [Bool.and_eq_true, decide_eq_true_eq] at hx
      obtain ⟨hx, rfl⟩ := hx
      split at h
      · rename_i a
        obtain ⟨a', ha, rfl⟩ := Option.map_eq_some_iff.mp h
        simp only [ck, ckL, Bool.and_eq_true] at k
        obtain ⟨k1, ⟨_, k3⟩, _⟩ := k
        refine e_lrg (te := tRg1 (tE C G sf W (.rd 9) a')) (o.calm hh) hg (bl _ (by decide)) (prg_1 (o.gl hx) (bl _ (by decide)) ((ih _ _ ha).pe _ k3) ((ih _ _ ha).shp.ns [] X.env)) (fun _ _ => rfl) k1 ?_
        rintro σ H Q ⟨F0, Fz, Hr, env, As, b, w⟩
        refine ⟨F0, Fz, Hr, env, As, b, ?_⟩
        simp only [Mp.ev, Mp.R.bind_ok] at w
        refine (Wg.bind w).imp fun d ed q v H' Fz' A e rv n f => ?_
        cases d <;> try exact (show False from q).elim
        rename_i j
        obtain rfl := Rd.int rv.1
        simp only [Mp.rngD] at q
        split at q
        · have q : ∀ i j' H' Fz', Ext Fz H Fz' H' → RgOk i j' → Mp.D.lst (Mp.rngL 0 j) = .lst (Mp.rngL i j') → Q i j' H' := q
          refine ⟨j, rfl, q 0 j H' Fz' e ?_ rfl⟩
          refine ⟨by omega, by omega, by omega, by omega, by omega⟩
        · exact (show False from q).elim
      · rename_i a a2
        split at h
        · rename_i a' a2' h1 h2
          cases h
          simp only [ck, ckL, Bool.and_eq_true] at k
          obtain ⟨k1, ⟨k2, k3⟩, _⟩ := k
          refine e_lrg (te := tRg2 (tE C G sf W (.rd 9) a') (tE C G sf W (.rd 9) a2')) (o.calm hh) hg (bl _ (by decide)) (prg_2 (o.gl hx) (bl _ (by decide)) ((ih _ _ h1).pe _ k2) ((ih _ _ h2).pe _ k3) ((ih _ _ h1).shp.ns [a2] X.env) ((ih _ _ h2).shp.ns [] X.env) (nost_any (by simpa using (ih _ _ h2).shp.ns))) (fun _ _ => rfl) k1 ?_
          rintro σ H Q ⟨F0, Fz, Hr, env, As, b, w⟩
          refine ⟨F0, Fz, Hr, env, As, b, ?_⟩
          refine (Wg.bind w).imp fun d ed q v H1 Fz1 A e rv n f => ⟨F0, Fz1, Hr, env, As, b.grow e, ?_⟩
          cases h3 : Mp.ev a2' sf env with
          | bad => rw [h3] at q; exact (show False from q).elim
          | exc z => rw [h3] at q; exact XW.mono e q
          | ok y =>
            rw [h3] at q
            intro u H2 Fz2 B e2 r2 n2 f2
            cases d <;> cases y <;> try exact (show False from q).elim
            rename_i i j
            obtain rfl := Rd.int rv.1
            obtain rfl := Rd.int r2.1
            simp only [Mp.R.bind_ok, Mp.rngD] at q
            split at q
            · have q : ∀ i' j' H' Fz', Ext Fz H Fz' H' → RgOk i' j' → Mp.D.lst (Mp.rngL i j) = .lst (Mp.rngL i' j') → Q i' j' H' := q
              exact ⟨i, j, rfl, rfl, q i j H2 Fz2 (e.trans e2) ⟨by omega, by omega, by omega, by omega, by omega⟩ rfl⟩
            · exact (show False from q).elim
        · cases h
      · cases h
    · cases h
  · cases h
theorem x_cl (o : XOk X C t sc sf sg W) (ih : ∀ e e', cp e = some e' → Good X C G sf sg W e e') {f : Expr} {pos : Pos} {args : List Expr} {kws : List Keyword} {e' : Mp.E} (shp : Shp (.Call f args kws pos)) (h : compCl t cp sc f args kws pos = some e') : Good X C G sf sg W (.Call f args kws pos) e' := by
  unfold compCl at h
  split at h
  · split at h
    · rename_i x p
      split at h
      · cases h
      · rename_i hgl
        have hg : Gl X x := o.gl (by simpa using hgl)
        split at h
        · rename_i e0
          subst e0
          exact x_isi o ih hg shp h
        · split at h
          · cases h
          · rename_i hh
            have hh : t.hot = false := by simpa using hh
            split at h
            · rename_i r hr
              cases h
              split at hr
              · rename_i e0
                subst e0
                split at hr
                · exact x_lrg o hh ih hg shp hr
                · cases hr
              · cases hr
            · exact x_call o hh ih hg shp h
    · split at h
      · cases h
      · rename_i hh
        exact x_meth o (by simpa using hh) ih shp h
    · cases h
  · cases h

/-! ### iterables -/
theorem ckI_of {it : Mp.E} (h : ck sg it G (.rd 1) = true) : ckI sg false it G = true := by
  have e : kI false = .rd 1 := rfl
  unfold ckI
  rw [e]
  split
  · simpa only [ck] using h
  · simpa only [ck] using h
  · simpa only [ck] using h
  · simpa only [ck] using h
  · simp only [Bool.or_eq_true]
    exact .inl h
  · exact h
theorem x_itN (o : XOk X C t sc sf sg W) (ih : ∀ e e', cp e = some e' → Good X C G sf sg W e e') (hnm : ∀ x p i, cp (.Name x p) = some (.nm i) → slotOf t sc x = some i) (hnm2 : ∀ e i, cp e = some (.nm i) → ∃ x p, e = .Name x p) {e tg : Expr} {it' : Mp.E} {fz : Bool} (h : cpN cp e = some it') (k : ckI sg fz it' G = true) : PI X tg e (tI C G sf W fz it') := by
  unfold cpN at h
  split at h
  · rename_i r hr
    split at h
    · cases h
    · rename_i hi
      cases h
      have std : ck sg it' G (kI fz) = true → PI X tg e (tI C G sf W fz it') := fun k => by
        refine i_of o.hK (k := kI fz) ?_ ((ih _ _ hr).pe _ k)
        cases fz with
        | true => exact .inl rfl
        | false => exact .inr ⟨rfl, rfl⟩
      unfold ckI at k
      split at k
      · exact absurd rfl hi
      · exact absurd rfl hi
      · exact absurd rfl hi
      · exact absurd rfl hi
      · rename_i i
        simp only [Bool.or_eq_true] at k
        rcases k with k | k
        · exact std k
        · obtain ⟨x, p, rfl⟩ := hnm2 _ _ hr
          have hs := hnm x p _ hr
          obtain ⟨h1, h2, h3, h4⟩ := o.vis hs
          refine i_nm o.hK h1 h2 h3 h4 ?_
          split at k
          · assumption
          · cases k
      · exact std k
  · cases h
theorem tgIt_tup {tg : Expr} {it : Mp.E} (h : tgIt tg it = true) (h2 : (∃ a b, it = .zipE a b) ∨ ∃ a, it = .enumE a) : ∃ es k p, tg = .Tuple es k p := by
  cases tg <;> first | exact ⟨_, _, _, rfl⟩ | (rcases h2 with ⟨a, b, rfl⟩ | ⟨a, rfl⟩ <;> cases h)
theorem wkIt_tg {tg : Expr} {xs : List Str} {is : List Nat} {it : Mp.E} (ht : tgIt tg it = true) (hx : tgOf tg = some xs) (hl : is.length = xs.length) (h : wkIt it = true) : is.length ≠ 1 := by
  have h2 : (∃ a b, it = .zipE a b) ∨ ∃ a, it = .enumE a := by
    cases it <;> first | (cases h; done) | exact .inl ⟨_, _, rfl⟩ | exact .inr ⟨_, rfl⟩
  obtain ⟨es, k, p, rfl⟩ := tgIt_tup ht h2
  have hx : (match nmsOf es with | some [] => none | some [_] => none | o => o) = some xs := hx
  cases q : nmsOf es with
  | none => rw [q] at hx; cases hx
  | some ys =>
    rw [q] at hx
    match ys, hx with
    | [], hx => cases hx
    | [_], hx => cases hx
    | y1 :: y2 :: ys, hx =>
      have hx : some (y1 :: y2 :: ys) = some xs := hx
      cases hx
      rw [hl]
      simp
theorem x_it (o : XOk X C t sc sf sg W) (ih : ∀ e e', cp e = some e' → Good X C G sf sg W e e') (hnm : ∀ x p i, cp (.Name x p) = some (.nm i) → slotOf t sc x = some i) (hnm2 : ∀ e i, cp e = some (.nm i) → ∃ x p, e = .Name x p) {e tg : Expr} {it' : Mp.E} {fz : Bool} (h : compIt cp sc e = some it') (k : ckI sg fz it' G = true) (ht : tgIt tg it' = true) : PI X tg e (tI C G sf W fz it') := by
  have bl := o.T.blt
  unfold compIt at h
  split at h
  · rename_i x p a pos
    split at h
    · rename_i hx
      have hg := o.gl hx
      unfold compIt1 at h
      split at h
      · rename_i e0; subst e0
        obtain ⟨a', ha, rfl⟩ := Option.map_eq_some_iff.mp h
        simp only [ckI, Bool.and_eq_true] at k
        exact i_rng1 hg (bl _ (by decide)) (ih _ _ ha).shp.ns ((ih _ _ ha).pe _ k.2)
      · split at h
        · rename_i e0; subst e0
          obtain ⟨a', ha, rfl⟩ := Option.map_eq_some_iff.mp h
          obtain ⟨es, kk, tp, rfl⟩ := tgIt_tup ht (.inr ⟨_, rfl⟩)
          exact i_enum hg (bl _ (by decide)) (ih _ _ ha).shp.ns ((ih _ _ ha).pe _ (by simpa only [ckI] using k))
        · split at h
          · rename_i e0; subst e0
            obtain ⟨a', ha, rfl⟩ := Option.map_eq_some_iff.mp h
            exact i_rev o.hK hg (bl _ (by decide)) (ih _ _ ha).shp.ns ((ih _ _ ha).pe _ (by simpa only [ckI] using k))
          · exact x_itN o ih hnm hnm2 h k
    · exact x_itN o ih hnm hnm2 h k
  · rename_i x p a b pos
    split at h
    · rename_i hx
      have hg := o.gl hx
      unfold compIt2 at h
      split at h
      · rename_i e0; subst e0
        split at h
        · rename_i a' b' h1 h2
          cases h
          simp only [ckI, Bool.and_eq_true] at k
          exact i_rng2 hg (bl _ (by decide)) (ih _ _ h1).shp.ns (ih _ _ h2).shp.ns ((ih _ _ h1).pe _ k.1) ((ih _ _ h2).pe _ k.2)
        · cases h
      · split at h
        · rename_i e0; subst e0
          split at h
          · rename_i a' b' h1 h2
            cases h
            simp only [ckI, Bool.and_eq_true] at k
            obtain ⟨es, kk, tp, rfl⟩ := tgIt_tup ht (.inl ⟨_, _, rfl⟩)
            exact i_zip o.hK hg (bl _ (by decide)) (ih _ _ h1).shp.ns (ih _ _ h2).shp.ns ((ih _ _ h1).pe _ k.1) ((ih _ _ h2).pe _ k.2)
          · cases h
        · exact x_itN o ih hnm hnm2 h k
    · exact x_itN o ih hnm hnm2 h k
  · exact x_itN o ih hnm hnm2 h k
end
end MpS

/-! MpX4: every expression that comp reads and ck passes: the whole. -/
namespace MpS
open PySem PySem.Spec PyProof.Rows L2

theorem nm_of {t : Tc} {n : Nat} {sc : Scope} {e : Expr} {i : Nat} (h : comp t n sc e = some (.nm i)) : ∃ x p, e = .Name x p := by
  cases n with
  | zero => cases h
  | succ n =>
    cases e with
    | Name x p => exact ⟨x, p, rfl⟩
    | Constant c j p => have h : compK c = some (.nm i) := h; cases c <;> cases h
    | BinOp a op b p =>
      have h : compBin (comp t n sc) a op b = some (.nm i) := h
      unfold compBin at h
      split at h <;> cases h
    | UnaryOp op a p =>
      have h : compUn (comp t n sc) op a = some (.nm i) := h
      unfold compUn at h
      split at h
      · obtain ⟨_, _, z⟩ := Option.map_eq_some_iff.mp h; cases z
      · obtain ⟨_, _, z⟩ := Option.map_eq_some_iff.mp h; cases z
      · cases h
    | BoolOp op es p =>
      have h : compBop (comp t n sc) op es = some (.nm i) := h
      unfold compBop at h
      split at h <;> cases h
    | Compare a ops bs p =>
      have h : compCmp (comp t n sc) a ops bs = some (.nm i) := h
      unfold compCmp at h
      split at h
      · split at h
        · split at h
          · obtain ⟨_, _, z⟩ := Option.map_eq_some_iff.mp h; cases z
          · obtain ⟨_, _, z⟩ := Option.map_eq_some_iff.mp h; cases z
          · cases h
        · split at h <;> cases h
      · split at h <;> cases h
      · cases h
    | IfExp c a b p =>
      have h : compIf (comp t n sc) c a b = some (.nm i) := h
      unfold compIf at h
      split at h <;> cases h
    | Tuple es x1 p =>
      have h : compTup (comp t n sc) es = some (.nm i) := h
      unfold compTup at h
      split at h
      · obtain ⟨_, _, z⟩ := Option.map_eq_some_iff.mp h; cases z
      · cases h
    | List es p =>
      have h : compLst (comp t n sc) es = some (.nm i) := h
      unfold compLst at h
      split at h
      · obtain ⟨_, _, z⟩ := Option.map_eq_some_iff.mp h; cases z
      · cases h
    | Dict ks vs p =>
      have h : compDct ks vs = some (.nm i) := h
      unfold compDct at h
      split at h <;> cases h
    | Subscript a b p =>
      have h : (if rvsOf b then (comp t n sc a).map Mp.E.rvs else compSub (comp t n sc) a b) = some (.nm i) := h
      unfold compSub at h
      split at h
      · obtain ⟨_, _, z⟩ := Option.map_eq_some_iff.mp h; cases z
      · split at h
        · split at h
          · split at h <;> cases h
          · cases h
        · split at h <;> cases h
    | Attribute a f p =>
      have h : compAtt t (comp t n sc) sc a f = some (.nm i) := h
      unfold compAtt at h
      split at h
      · obtain ⟨_, _, z⟩ := Option.map_eq_some_iff.mp h; cases z
      · split at h
        · split at h <;> cases h
        · cases h
    | Call f args kws p =>
      have h : compCl t (comp t n sc) sc f args kws p = some (.nm i) := h
      unfold compCl at h
      split at h
      · split at h
        · split at h
          · cases h
          · split at h
            · unfold compIsi at h
              split at h
              · split at h
                · split at h
                  · obtain ⟨_, _, z⟩ := Option.map_eq_some_iff.mp h; cases z
                  · cases h
                · split at h
                  · cases h
                  · split at h <;> cases h
              · cases h
            · split at h
              · cases h
              · split at h
                · cases h
                · unfold compCall at h
                  split at h
                  · cases h
                  · split at h
                    · cases h
                    · split at h
                      · split at h <;> cases h
                      · split at h
                        · split at h <;> cases h
                        · split at h
                          · split at h <;> cases h
                          · cases h
        · split at h
          · cases h
          · unfold compMeth at h
            split at h
            · split at h
              · cases h
              · split at h
                · split at h <;> cases h
                · split at h
                  · split at h <;> cases h
                  · split at h
                    · split at h <;> cases h
                    · cases h
            · cases h
        · cases h
      · cases h
    | ListComp elt gs csc p =>
      have h : (if t.hot then none else compLc t (comp t n sc) (comp t n csc) sc elt gs csc) = some (.nm i) := h
      split at h
      · cases h
      · unfold compLc at h
        split at h
        · split at h
          · split at h
            · split at h <;> cases h
            · cases h
          · cases h
        · cases h
    | DictComp ka va gs csc p =>
      have h : (if t.hot then none else compDc t (comp t n sc) (comp t n csc) sc ka va gs csc) = some (.nm i) := h
      split at h
      · cases h
      · unfold compDc at h
        split at h
        · split at h
          · split at h
            · split at h <;> cases h
            · cases h
          · cases h
        · cases h
    | _ => cases h
theorem comp_nm {t : Tc} {n : Nat} {sc : Scope} {x : Str} {p : Pos} {i : Nat} (h : comp t n sc (.Name x p) = some (.nm i)) : slotOf t sc x = some i := by
  cases n with
  | zero => cases h
  | succ n =>
    have h : compNm t sc x = some (.nm i) := h
    unfold compNm at h
    split at h
    · cases h
    split at h
    · obtain ⟨i, hi, e⟩ := Option.map_eq_some_iff.mp h
      cases e
      exact hi
    · split at h <;> cases h
theorem relS_scr {sc0 : Scope} (sc : Scope) : ScR sc (relS sc sc0) := by
  intro x
  show (List.lookup x (sc.names.map fun (n, k) => if (k == .free && sc0.kind == .function && sc0.names.lookup n == some .cell) then (n, .cell) else (n, k))) = _ ∨ _ ∧ (List.lookup x (sc.names.map fun (n, k) => if (k == .free && sc0.kind == .function && sc0.names.lookup n == some .cell) then (n, .cell) else (n, k))) = _
  generalize sc.names = l
  induction l with
  | nil => exact .inl rfl
  | cons q l ih =>
    obtain ⟨n, k⟩ := q
    simp only [List.map_cons]
    cases hx : x == n with
    | true =>
      by_cases hc : (k == NameKind.free && sc0.kind == .function && sc0.names.lookup n == some .cell) = true
      · rw [if_pos hc]
        simp only [List.lookup_cons, hx]
        simp only [Bool.and_eq_true, beq_iff_eq] at hc
        exact .inr ⟨by rw [hc.1.1], trivial⟩
      · rw [if_neg hc]
        simp only [List.lookup_cons, hx]
        exact .inl trivial
    | false =>
      by_cases hc : (k == NameKind.free && sc0.kind == .function && sc0.names.lookup n == some .cell) = true
      · rw [if_pos hc]
        simp only [List.lookup_cons, hx]
        exact ih
      · rw [if_neg hc]
        simp only [List.lookup_cons, hx]
        exact ih
section
variable {X : Cx} {C : Cfg} {t : Tc} {sc : Scope} {G : List Md} {sf : Mp.Sf} {sg : Sg} {W : WX} {cp : Expr → Option Mp.E} {kd : Kd}
theorem XOk.blk (o : XOk X C t sc sf sg W) (hh : t.hot = false) (csc : Scope) (s : Shared) (H : Hp) (Ca : Addr) (cl : List (Str × Addr)) (fp : List Addr) : XOk (X.blk s H csc (compEnvC csc cl Ca X.env) fp) C t csc sf sg W0 where
  hK := o.hK
  FN := o.FN
  hN := o.hN
  nd := o.nd
  calm := o.calm
  un := o.un
  exs := fun z => by rw [hh] at z; cases z
  scr := relS_scr csc
  nn := o.nn
  room := o.room
  pa := fun σ pins H s e s' I h => by
    obtain ⟨_, _, _, _, _, _, _, _, _, _, _, _, w⟩ := h
    exact w.elim
  T := o.T
  slf := o.slf
theorem slotLoc_at {csc : Scope} {x : Str} {i : Nat} (h : slotLoc t csc x = some i) : t.N[i]? = some x ∧ (csc.names.lookup x = some .local ∨ csc.names.lookup x = some .cell) := by
  have key : ixOf x t.N 0 = some i ∧ (csc.names.lookup x = some .local ∨ csc.names.lookup x = some .cell) := by
    unfold slotLoc at h
    split at h
    · rename_i q; exact ⟨h, .inl q⟩
    · rename_i q; exact ⟨h, .inr q⟩
    · cases h
  obtain ⟨h1, h2⟩ := key
  obtain ⟨j, e, hj⟩ := ixOf_at h1
  rw [Nat.zero_add] at e
  subst e
  exact ⟨hj, h2⟩
theorem tgOk_blk (o : XOk X C t sc sf sg W) {csc : Scope} {s : Shared} {H : Hp} {Ca : Addr} {cl : List (Str × Addr)} {fp : List Addr} : ∀ {xs : List Str} {is : List Nat}, mapO (slotLoc t csc) xs = some is → TgOk (X.blk s H csc (compEnvC csc cl Ca X.env) fp) xs is
  | [], is, h => by cases h; exact .nil
  | x :: xs, is, h => by
    unfold mapO at h
    cases q1 : slotLoc t csc x with
    | none => rw [q1] at h; simp at h
    | some i =>
      cases q2 : mapO (slotLoc t csc) xs with
      | none => rw [q1, q2] at h; simp at h
      | some is' =>
        rw [q1, q2] at h
        cases h
        obtain ⟨h1, h2⟩ := slotLoc_at q1
        have keep : ∀ k, k ≠ .free → csc.names.lookup x = some k → (relS csc X.env.scope).names.lookup x = some k := fun k hk e => by
          rcases relS_scr (sc0 := X.env.scope) csc x with z | ⟨z, _⟩
          · rw [z, e]
          · rw [e] at z; cases z; exact absurd rfl hk
        refine .cons (by show X.N[i]? = _; rw [o.hN]; exact h1) ?_ ?_ (tgOk_blk o q2)
        · rcases h2 with h2 | h2
          · exact .inl (keep _ (by decide) h2)
          · exact .inr (keep _ (by decide) h2)
        · rcases h2 with h2 | h2
          · exact .inr (keep _ (by decide) h2)
          · exact .inl (by show (csc.names.lookup x == some NameKind.cell) = true; rw [h2]; rfl)
/-- a comprehension's parts -/
structure LcP (X : Cx) (C : Cfg) (G : List Md) (sf : Mp.Sf) (W : WX) (kd : Kd) (elt tg it : Expr) (ifs : List Expr) (csc : Scope) (elt' it' : Mp.E) (is : List Nat) (cnd : List Mp.E) (own : List (Str × Nat)) : Prop where
  hown : own.map (·.2) = is
  bo : BlkOk X.N X.env.scope csc own
  hi : ∀ i ∈ is, i < G.length
  na : noAls is G = true
  hw : wkIt it' = true → is.length ≠ 1
  hit : PI X tg it (tI C G sf W false it')
  fold : ∀ x, foldedSetIterable it X.env x = pure x
  hg : ∀ (s : Shared) (H : Hp) (Ca : Addr) (cl : List (Str × Addr)) (fp : List Addr), PG (X.blk s H csc (compEnvC csc cl Ca X.env) fp) tg (gT X.K is)
  ht : ∀ (s : Shared) (H : Hp) (Ca : Addr) (cl : List (Str × Addr)) (fp : List Addr), PTs (X.blk s H csc (compEnvC csc cl Ca X.env) fp) ifs (tC C (setFr is G) sf W0 cnd)
  he : ∀ (s : Shared) (H : Hp) (Ca : Addr) (cl : List (Str × Addr)) (fp : List Addr), PE (X.blk s H csc (compEnvC csc cl Ca X.env) fp) elt (tE C (setFr is G) sf W0 (kEl kd) elt')
theorem x_lcP (o : XOk X C t sc sf sg W) (hh : t.hot = false) {n : Nat} (ih : ∀ e e', comp t n sc e = some e' → Good X C G sf sg W e e')
    (ihB : ∀ (X' : Cx) (sc' : Scope) (G' : List Md), XOk X' C t sc' sf sg W0 → ∀ e e', comp t n sc' e = some e' → Good X' C G' sf sg W0 e e')
    {elt : Expr} {gs : List Comprehension} {csc : Scope} {e' : Mp.E} (h : compLc t (comp t n sc) (comp t n csc) sc elt gs csc = some e') (k : ck sg e' G kd = true) :
    ∃ tg it ifs elt' it' is cnd own, gs = [⟨tg, it, ifs, 0⟩] ∧ e' = .lc elt' is it' cnd ∧ LcP X C G sf W kd elt tg it ifs csc elt' it' is cnd own := by
  unfold compLc at h
  split at h
  · rename_i tg it ifs
    split at h
    · rename_i xs hxs
      split at h
      · rename_i is it' elt' ifs' h1 h2 h3 h4
        split at h
        · rename_i hc
          simp only [Bool.and_eq_true, decide_eq_true_eq] at hc
          obtain ⟨⟨c1, c2⟩, c3⟩ := hc
          cases h
          simp only [ck, Bool.and_eq_true, List.all_eq_true, decide_eq_true_eq] at k
          obtain ⟨⟨⟨⟨⟨kn, k1⟩, k2⟩, k3⟩, k4⟩, k5⟩ := k
          have bo := blkOk_by c1
          have bo' : BlkOk X.N X.env.scope csc (xs.zip is) := by
            rw [o.hN]
            refine ⟨bo.kind, bo.uniq, bo.ix, fun y hy e => ?_, bo.own⟩
            rcases o.scr y.1 with z | ⟨_, z⟩
            · rw [z]; exact bo.free y hy e
            · exact .inl z
          have hl : is.length = xs.length := mapO_len h1
          have k5' : ck sg elt' (setFr is G) (kEl kd) = true := by
            cases kd with
            | rd j => exact k5
            | ow j => cases j <;> exact k5
          have fold : ∀ x, foldedSetIterable it X.env x = pure x := by
            intro x
            have hn : ∀ {e r}, cpN (comp t n sc) e = some r → foldedSetIterable e X.env x = pure x := fun {e r} h => by
              unfold cpN at h
              split at h
              · rename_i r hr
                exact (ih _ _ hr).shp.fold X.env x
              · cases h
            unfold compIt at h2
            split at h2
            · rfl
            · rfl
            · exact hn h2
          refine ⟨tg, it, ifs, elt', it', is, ifs', xs.zip is, rfl, rfl, by rw [List.map_snd_zip (by omega)], bo', fun i hi => k1 i hi, kn, wkIt_tg c3 hxs hl, x_it o ih (fun x p i h => comp_nm h) (fun e i h => nm_of h) h2 (ckI_of k2) c3, fold, fun s H Ca cl fp => ?_, fun s H Ca cl fp => ?_, fun s H Ca cl fp => ?_⟩
          · exact pg_of (X := X.blk s H csc (compEnvC csc cl Ca X.env) fp) o.nd (o.calm hh) hxs (tgOk_blk o h1)
          · have ih2 := ihB (X.blk s H csc (compEnvC csc cl Ca X.env) fp) csc (setFr is G) (o.blk hh csc s H Ca cl fp)
            cases ifs with
            | nil => cases h4; exact c_nil
            | cons c ifs =>
              cases ifs with
              | nil =>
                unfold mapO at h4
                cases q : comp t n csc c with
                | none => rw [q] at h4; simp at h4
                | some c' =>
                  rw [q] at h4
                  simp only [mapO] at h4
                  cases h4
                  simp only [nifL, ckL, Bool.and_eq_true] at k3 k4
                  exact c_one ((ih2 _ _ q).pt 9 k4.1 k3.1)
              | cons d ifs =>
                have := mapO_len h4
                simp at this
                omega
          · exact (ihB (X.blk s H csc (compEnvC csc cl Ca X.env) fp) csc (setFr is G) (o.blk hh csc s H Ca cl fp) _ _ h3).pe _ k5'
        · cases h
      · cases h
    · cases h
  · cases h
theorem x_lc (o : XOk X C t sc sf sg W) (hh : t.hot = false) {n : Nat} (ih : ∀ e e', comp t n sc e = some e' → Good X C G sf sg W e e')
    (ihB : ∀ (X' : Cx) (sc' : Scope) (G' : List Md), XOk X' C t sc' sf sg W0 → ∀ e e', comp t n sc' e = some e' → Good X' C G' sf sg W0 e e')
    {elt : Expr} {gs : List Comprehension} {csc : Scope} {pos : Pos} {e' : Mp.E} (shp : Shp (.ListComp elt gs csc pos)) (h : compLc t (comp t n sc) (comp t n csc) sc elt gs csc = some e') : Good X C G sf sg W (.ListComp elt gs csc pos) e' := by
  refine g_pe o.hK shp (fun _ => rfl) fun kd k => ?_
  obtain ⟨tg, it, ifs, elt', it', is, cnd, own, rfl, rfl, q⟩ := x_lcP o hh ih ihB h k
  refine PE.imp (pe_lc (o.calm hh) o.nd q.hit q.bo q.hg q.ht q.he q.fold) fun σ H Q z => ?_
  rw [q.hown]
  exact lc_read o.hK q.hi q.na q.hw z
/-- name = [..], on one line -/
theorem x_lcS (o : XOk X C t sc sf sg W) (hh : t.hot = false) {n : Nat} (ih : ∀ e e', comp t n sc e = some e' → Good X C G sf sg W e e')
    (ihB : ∀ (X' : Cx) (sc' : Scope) (G' : List Md), XOk X' C t sc' sf sg W0 → ∀ e e', comp t n sc' e = some e' → Good X' C G' sf sg W0 e e')
    {elt : Expr} {gs : List Comprehension} {csc : Scope} {pos spos py : Pos} {e' : Mp.E} {y : Str} {i : Nat} (h : compLc t (comp t n sc) (comp t n csc) sc elt gs csc = some e') (k : ck sg e' G kd = true)
    (hy : X.N[i]? = some y) (hyl : X.env.scope.names.lookup y = some .local) (hsw : swapsWith (.ListComp elt gs csc pos) (some (.Name y py)) spos.line X.env = pure true) :
    PS X (.Assign [.Name y py] (.ListComp elt gs csc pos) spos) (tAsg (tE C G sf W kd e') (gName i)) := by
  obtain ⟨tg, it, ifs, elt', it', is, cnd, own, rfl, rfl, q⟩ := x_lcP o hh ih ihB h k
  have p := ps_setLc (i := i) (o.calm hh) o.nd hy hyl hsw q.hit q.bo q.hg q.ht q.he q.fold
  refine ⟨fun pins s σ H D I z => p.run pins s σ H D I ?_⟩
  rw [q.hown]
  exact lc_read o.hK q.hi q.na q.hw z
theorem x_dc (o : XOk X C t sc sf sg W) (hh : t.hot = false) {n : Nat} (ih : ∀ e e', comp t n sc e = some e' → Good X C G sf sg W e e')
    (ihB : ∀ (X' : Cx) (sc' : Scope) (G' : List Md), XOk X' C t sc' sf sg W0 → ∀ e e', comp t n sc' e = some e' → Good X' C G' sf sg W0 e e')
    (ihK : ∀ (X' : Cx) (sc' : Scope) (G' : List Md), XOk X' C t sc' sf sg W0 → ∀ e e' kd, comp t n sc' e = some e' → ck sg e' G' kd = true → PE X' e (tKy C G' sf W0 (isTuple e) e'))
    {ka va : Expr} {gs : List Comprehension} {csc : Scope} {pos : Pos} {e' : Mp.E} (shp : Shp (.DictComp ka va gs csc pos)) (h : compDc t (comp t n sc) (comp t n csc) sc ka va gs csc = some e') : Good X C G sf sg W (.DictComp ka va gs csc pos) e' := by
  refine g_pe o.hK shp (fun _ => rfl) fun kd k => ?_
  have hu := o.units
  unfold compDc at h
  split at h
  · rename_i tg it
    split at h
    · rename_i xs hxs
      split at h
      · rename_i is it' k' v' h1 h2 h3 h4
        split at h
        · rename_i hc
          simp only [Bool.and_eq_true] at hc
          obtain ⟨c1, c3⟩ := hc
          cases h
          simp only [ck, Bool.and_eq_true, List.all_eq_true, decide_eq_true_eq] at k
          obtain ⟨⟨⟨⟨⟨kn, k0⟩, k1⟩, k2⟩, k3⟩, k4⟩ := k
          have bo := blkOk_by c1
          have bo' : BlkOk X.N X.env.scope csc (xs.zip is) := by
            rw [o.hN]
            refine ⟨bo.kind, bo.uniq, bo.ix, fun y hy e => ?_, bo.own⟩
            rcases o.scr y.1 with z | ⟨_, z⟩
            · rw [z]; exact bo.free y hy e
            · exact .inl z
          have hl : is.length = xs.length := mapO_len h1
          have hown : (xs.zip is).map (·.2) = is := by rw [List.map_snd_zip (by omega)]
          have fold : ∀ x, foldedSetIterable it X.env x = pure x := by
            intro x
            have hn : ∀ {e r}, cpN (comp t n sc) e = some r → foldedSetIterable e X.env x = pure x := fun {e r} h => by
              unfold cpN at h
              split at h
              · rename_i r hr
                exact (ih _ _ hr).shp.fold X.env x
              · cases h
            unfold compIt at h2
            split at h2
            · rfl
            · rfl
            · exact hn h2
          refine PE.imp (pe_dg (tk := isTuple ka) (g := gT X.K is) (ta := tKy C (setFr is G) sf W0 (isTuple ka) k') (tb := tE C (setFr is G) sf W0 (.rd 0) v') (o.calm hh) (by omega) o.nd (x_it o ih (fun x p i h => comp_nm h) (fun e i h => nm_of h) h2 (ckI_of k2) c3) bo' (fun s H Ca cl fp => ?_) (fun s H Ca cl fp => ?_) (fun s H Ca cl fp => ?_) fold) fun σ H Q z => ?_
          · exact pg_of (X := X.blk s H csc (compEnvC csc cl Ca X.env) fp) o.nd (o.calm hh) hxs (tgOk_blk o h1)
          · exact ihK (X.blk s H csc (compEnvC csc cl Ca X.env) fp) csc (setFr is G) (o.blk hh csc s H Ca cl fp) ka k' (.rd 0) h3 k3
          · exact (ihB (X.blk s H csc (compEnvC csc cl Ca X.env) fp) csc (setFr is G) (o.blk hh csc s H Ca cl fp) _ _ h4).pe _ k4
          · rw [hown]
            exact dg_read o.hK k0 (fun i hi => k1 i hi) kn (wkIt_tg c3 hxs hl) z
        · cases h
      · cases h
    · cases h
  · cases h
end
/-- a key -/
theorem x_key {n : Nat} (o : XOk X C t sc sf sg W) (ih : ∀ m, m ≤ n → ∀ e e', comp t m sc e = some e' → Good X C G sf sg W e e') {e : Expr} {e' : Mp.E} (h : comp t n sc e = some e') (k : ck sg e' G kd = true) : PE X e (tKy C G sf W (isTuple e) e') := by
  have plain : isTuple e = false → PE X e (tKy C G sf W (isTuple e) e') := fun z => by
    rw [z]
    have g := (ih n (Nat.le_refl _) _ _ h).pe _ k
    cases kd with
    | rd j => exact ky_of g
    | ow j => exact ky_of (j := j) (PE.imp g fun σ H Q ⟨F0, Fz, Hr, env, As, b, w⟩ => ⟨F0, Fz, Hr, env, As, b, w.imp fun d _ q v H' Fz' A e r nd fr => by
        have r : Ow C Fz' H' j d v A := r
        refine q v H' (fun a => Fz' a ∨ a ∈ A) [] ⟨e.same, fun a h => .inl (e.sub a h), fun a h => ?_, fun a h => ?_⟩ ⟨Rd.same (Same.refl _) (fun _ h => .inl h) j d v (Ow.rd j d v A r), rfl⟩ List.nodup_nil (fun a ha => by cases ha)
        · rcases h with h | h
          · exact e.new a h
          · exact .inr (fr a h).1
        · rcases h with h | h
          · exact e.trk a h
          · obtain ⟨o, ho, _⟩ := Ow.mut j d v A r a h
            exact ⟨o, ho⟩⟩)
  cases e <;> try exact plain rfl
  case Tuple es x1 p =>
    cases n with
    | zero => cases h
    | succ n =>
      have h : compTup (comp t n sc) es = some e' := h
      unfold compTup at h
      split at h
      · rename_i hl
        obtain ⟨es', he, rfl⟩ := Option.map_eq_some_iff.mp h
        have k : ckL sg es' G (.rd 0) = true := by simpa only [ck] using k
        exact ky_tup hl (x_args (ih n (by omega)) he k)
      · cases h
/-- the whole -/
theorem e_all {C : Cfg} {t : Tc} {sf : Mp.Sf} {sg : Sg} : ∀ (n : Nat) (X : Cx) (sc : Scope) (G : List Md) (W : WX), XOk X C t sc sf sg W → ∀ e e', comp t n sc e = some e' → Good X C G sf sg W e e'
  | 0, _, _, _, _, _, _, _, h => by cases h
  | n + 1, X, sc, G, W, o, e, e', h => by
    have shp := shp_of h
    have ih := e_all n X sc G W o
    have h0 := h
    cases e with
    | Constant c j p => exact x_K o shp h
    | Name x p => exact x_nm o shp h
    | BinOp a op b p => exact x_bin o ih shp h
    | UnaryOp op a p => exact x_un o ih shp h
    | BoolOp op es p => exact x_bop o ih shp h
    | Compare a ops bs p => exact x_cmp o ih shp h
    | IfExp c a b p => exact x_if o ih shp h
    | Tuple es x1 p => exact x_tup o ih shp h
    | List es p => exact x_lst o ih shp h
    | Dict ks vs p => exact x_dct o shp h
    | Subscript a b p =>
      have h : (if rvsOf b then (comp t n sc a).map Mp.E.rvs else compSub (comp t n sc) a b) = some e' := h
      split at h
      · rename_i hb
        exact x_rvs o ih hb shp h
      · exact x_sub o ih shp h
    | Attribute a f p => exact x_att o ih shp h
    | Call f args kws p => exact x_cl o ih shp h
    | ListComp elt gs csc p =>
      have h : (if t.hot then none else compLc t (comp t n sc) (comp t n csc) sc elt gs csc) = some e' := h
      split at h
      · cases h
      · rename_i hh
        exact x_lc o (by simpa using hh) ih (fun X' sc' G' o' => e_all n X' sc' G' W0 o') shp h
    | DictComp ka va gs csc p =>
      have h : (if t.hot then none else compDc t (comp t n sc) (comp t n csc) sc ka va gs csc) = some e' := h
      split at h
      · cases h
      · rename_i hh
        exact x_dc o (by simpa using hh) ih (fun X' sc' G' o' => e_all n X' sc' G' W0 o') (fun X' sc' G' o' e e' kd hc hk => x_key o' (fun m _ => e_all m X' sc' G' W0 o') hc hk) shp h
    | _ => cases h0
end MpS

/-! MpSt: statements. -/
namespace MpS
open PySem PySem.Spec PyProof.Rows L2

/-- the heap moves on -/
structure Evo (F : Addr → Prop) (H : Hp) (F' : Addr → Prop) (H' : Hp) : Prop where
  sub : ∀ a, F a → F' a
  keep : Keep F H H'
/-- an exception leaves: the frame as it then is, as the except clauses want it -/
def ExW (C : Cfg) (W : WX) (F0 : Addr → Prop) (Hr : Hp) (L : Lx) (Fz : Addr → Prop) (H : Hp) (d : Mp.D) (env' : List Mp.D) : Prop :=
  ∀ σ' H' Fz' As' G1, (∀ GX, L.tr = some GX → G1 = GX) → Evo Fz H Fz' H' → BI C G1 F0 Fz' Hr env' σ' H' As' → XW C (fun cls dx H' => W cls dx σ' H') Fz' H' d
def OutW (C : Cfg) (W : WX) (D : Ends) (F0 : Addr → Prop) (Hr : Hp) (rt : Nat) (L : Lx) (G' : List Md) (Fz : Addr → Prop) (H : Hp) : Mp.O → Prop
  | .nx env' => ∀ σ' H' Fz' As', Evo Fz H Fz' H' → BI C G' F0 Fz' Hr env' σ' H' As' → D.nx σ' H'
  | .br env' => ∃ GL, L.lp = some GL ∧ ∀ σ' H' Fz' As', Evo Fz H Fz' H' → BI C GL F0 Fz' Hr env' σ' H' As' → D.bk σ' H'
  | .ct env' => ∃ GL, L.lp = some GL ∧ ∀ σ' H' Fz' As', Evo Fz H Fz' H' → BI C GL F0 Fz' Hr env' σ' H' As' → D.ct σ' H'
  | .rt d _ => ∀ v H' Fz' A, Ext F0 Hr Fz' H' → Rs C (.ow rt) Fz' H' d v A → A.Nodup → (∀ a ∈ A, Hr a = none ∧ ¬ Fz' a) → D.rt v H'
  | .ex d env' => ExW C W F0 Hr L Fz H d env'
  | .bad => False
def tSt (C : Cfg) (sf : Mp.Sf) (W : WX) (rt : Nat) (L : Lx) (G G' : List Md) (s : Mp.S) : TS := fun D σ H =>
  ∃ F0 Fz Hr env As, BI C G F0 Fz Hr env σ H As ∧ OutW C W D F0 Hr rt L G' Fz H (Mp.exec s sf env)
def tSs (C : Cfg) (sf : Mp.Sf) (W : WX) (rt : Nat) (L : Lx) (G G' : List Md) (s : List Mp.S) : TS := fun D σ H =>
  ∃ F0 Fz Hr env As, BI C G F0 Fz Hr env σ H As ∧ OutW C W D F0 Hr rt L G' Fz H (Mp.execs s sf env)

section
variable {C : Cfg} {G G' G1 G2 : List Md} {F0 Fz Fz' Fz1 Fz2 : Addr → Prop} {Hr H H' H1 H2 : Hp} {env env' : List Mp.D} {σ : L2.St} {As : Nat → List Addr} {E : XK} {kd ka : Kd} {Q : VK} {sf : Mp.Sf} {W : WX}
variable {X : Cx} {a b c tg : Expr} {a' b' c' e' : Mp.E} {pos : Pos} {D : Ends} {rt : Nat} {L : Lx}
theorem Evo.refl : Evo Fz H Fz H := ⟨fun _ h => h, .of (Same.refl H)⟩
theorem Evo.of (e : Ext Fz H Fz1 H1) : Evo Fz H Fz1 H1 := ⟨e.sub, .of e.same⟩
theorem Evo.trans (a : Evo Fz H Fz1 H1) (b : Evo Fz1 H1 Fz2 H2) : Evo Fz H Fz2 H2 :=
  ⟨fun x h => b.sub x (a.sub x h), fun x o h e => b.keep.fz x o (a.sub x h) (a.keep.fz x o h e), fun x us e => b.keep.tp x us (a.keep.tp x us e), fun x o u e => b.keep.fr x o u (a.keep.fr x o u e)⟩
theorem OutW.mono {o : Mp.O} (e : Evo Fz H Fz1 H1) (h : OutW C W D F0 Hr rt L G' Fz H o) : OutW C W D F0 Hr rt L G' Fz1 H1 o := by
  cases o with
  | nx env => exact fun σ' H' Fz' As' e' b => h σ' H' Fz' As' (e.trans e') b
  | br env => obtain ⟨GL, hL, h⟩ := h; exact ⟨GL, hL, fun σ' H' Fz' As' e' b => h σ' H' Fz' As' (e.trans e') b⟩
  | ct env => obtain ⟨GL, hL, h⟩ := h; exact ⟨GL, hL, fun σ' H' Fz' As' e' b => h σ' H' Fz' As' (e.trans e') b⟩
  | rt d env => exact h
  | ex d env => exact fun σ' H' Fz' As' G1 hg e' b => h σ' H' Fz' As' G1 hg (e.trans e') b
  | bad => exact h
theorem BI.low' (b : BI C G F0 Fz Hr env σ H As) (hg : lowG G G' = true) : ∃ Fz' As', BI C G' F0 Fz' Hr env σ H As' ∧ Evo Fz H Fz' H := by
  obtain ⟨Fz', As', b', h1, _⟩ := b.low hg
  exact ⟨Fz', As', b', h1, .of (Same.refl H)⟩
theorem OutW.low {o : Mp.O} (hg : lowG G1 G' = true) (h : OutW C W D F0 Hr rt L G' Fz H o) : OutW C W D F0 Hr rt L G1 Fz H o := by
  cases o with
  | nx env =>
    intro σ' H' Fz' As' e b
    obtain ⟨Fz2, As2, b2, e2⟩ := b.low' hg
    exact h σ' H' Fz2 As2 (e.trans e2) b2
  | _ => exact h
theorem tSt_low {s : Mp.S} (hg : lowG G G1 = true) (h : tSt C sf W rt L G G' s D σ H) : tSt C sf W rt L G1 G' s D σ H := by
  obtain ⟨F0, Fz, Hr, env, As, b, w⟩ := h
  obtain ⟨Fz2, As2, b2, e2⟩ := b.low' hg
  exact ⟨F0, Fz2, Hr, env, As2, b2, OutW.mono e2 w⟩
theorem PS.imp {st : Stmt} {t t' : TS} (h : PS X st t) (f : ∀ D σ H, t' D σ H → t D σ H) : PS X st t' := ⟨fun pins s σ H D I q => h.run pins s σ H D I (f D σ H q)⟩
theorem PSs.imp {st : List Stmt} {t t' : TS} (h : PSs X st t) (f : ∀ D σ H, t' D σ H → t D σ H) : PSs X st t' := ⟨fun pins s σ H D I q => h.run pins s σ H D I (f D σ H q)⟩
theorem XW.widen {E : XK} {d : Mp.D} (hs : ∀ a, Fz a → Fz1 a) (ht : ∀ a, Fz1 a → ∃ o, H a = some o) (h : XW C E Fz1 H d) : XW C E Fz H d := fun cls dx H' Fz' e x => by
  refine h cls dx H' (fun a => Fz' a ∨ Fz1 a) ⟨e.same, fun a z => .inr z, fun a z => ?_, fun a z => ?_⟩ (x.keep (fun _ z => .inl z) (.of (Same.refl _)))
  · rcases z with z | z
    · rcases e.new a z with z | z
      · exact .inl (hs a z)
      · exact .inr z
    · exact .inl z
  · rcases z with z | z
    · exact e.trk a z
    · obtain ⟨o, ho⟩ := ht a z
      exact ⟨o, e.same a o ho⟩
/-- an exception comes out of an expression -/
theorem ExW.at {d : Mp.D} (hx : okL L G = true) (b : BI C G F0 Fz Hr env σ H As) (w : ExW C W F0 Hr L Fz H d env) : XW C (fun cls dx H' => W cls dx σ H') Fz H d := by
  unfold okL at hx
  split at hx
  · rename_i q
    exact w σ H Fz As G (fun GX z => by rw [q] at z; cases z) .refl b
  · rename_i GX q
    obtain ⟨Fz2, As2, b2, e2⟩ := b.low' hx
    exact XW.widen e2.sub b2.ext.trk (w σ H Fz2 As2 GX (fun GY z => by rw [q] at z; cases z; rfl) e2 b2)
/-- behind an expression's value -/
theorem OutW.toO {r : Mp.R Mp.D} {k : Mp.D → Mp.O} (hx : okL L G = true) (b : BI C G F0 Fz Hr env σ H As) (w : OutW C W D F0 Hr rt L G' Fz H (r.toO env k)) : Wg C (fun cls dx H' => W cls dx σ H') Fz H r fun d => OutW C W D F0 Hr rt L G' Fz H (k d) := by
  cases r with
  | ok d => exact w
  | exc d => exact ExW.at hx b w
  | bad => exact w
theorem OutW.toOl {r : Mp.R (List Mp.D)} {k : List Mp.D → Mp.O} (hx : okL L G = true) (b : BI C G F0 Fz Hr env σ H As) (w : OutW C W D F0 Hr rt L G' Fz H (r.toOl env k)) : Wg C (fun cls dx H' => W cls dx σ H') Fz H r fun d => OutW C W D F0 Hr rt L G' Fz H (k d) := by
  cases r with
  | ok d => exact w
  | exc d => exact ExW.at hx b w
  | bad => exact w
/-- a value goes to a slot -/
theorem BI.store (b : BI C G F0 Fz Hr env σ H As) (e : Ext Fz H Fz1 H1) {i : Nat} (hi : i < G.length) {d : Mp.D} {v : V} {A : List Addr} {m : Md} (hm : (match kd with | .rd 0 => m = .fr | .ow k => m = .ow k | _ => False)) (r : Rs C kd Fz1 H1 d v A) (n : A.Nodup) (f : ∀ a ∈ A, H a = none ∧ ¬ Fz1 a) (na : noAl G i = true) :
    ∃ As', BI C (G.set i m) F0 Fz1 Hr (env.set i d) (σ.set i (some v)) H1 As' := by
  have b1 := b.grow e
  refine ⟨_, b1.put (A := A) (by rw [← b.l1]; exact hi) ?_ n (fun a ha => ⟨(f a ha).2, b.ext.same.free (f a ha).1⟩) (fun j a _ ha hj => ?_) (fun k _ => noAl_at na) (fun k hk => ?_)⟩
  · refine .inr ⟨v, rfl, ?_⟩
    cases kd with
    | rd k => cases k with
      | zero => subst hm; exact r
      | succ k => exact hm.elim
    | ow k => subst hm; exact r
  · obtain ⟨o, ho, _⟩ := b.mut j a hj
    rw [(f a ha).1] at ho; cases ho
  · exfalso
    subst hk
    cases kd with
    | rd k => cases k with
      | zero => cases hm
      | succ k => exact hm
    | ow k => cases hm

theorem s_set {i : Nat} {x : Str} {p : Pos} {m : Md} (hx : okL L G = true) (hN : X.N.Nodup) (hx0 : X.N[i]? = some x) (hx1 : Loc X.env.scope x) (hf : X.fn x = true ∨ X.env.scope.names.lookup x = some .local) (hi : i < G.length) (na : noAl G i = true) (hm : (match kd with | .rd 0 => m = .fr | .ow k => m = .ow k | _ => False)) (ha : PE X a (tE C G sf W kd a'))
    (hs : swapsWith a (some (.Name x p)) pos.line X.env = pure false) : PS X (.Assign [.Name x p] a pos) (tSt C sf W rt L G (G.set i m) (.set i a')) := by
  refine PS.imp (ps_set hN hx0 hx1 ha hs hf) fun D σ H ⟨F0, Fz, Hr, env, As, b, w⟩ => ⟨F0, Fz, Hr, env, As, b, ?_⟩
  refine (OutW.toO hx b w).imp fun d _ q v H1 Fz1 A e r n f => ?_
  obtain ⟨As', b'⟩ := b.store e hi hm r n f na
  exact q _ H1 Fz1 As' (.of e) b'
theorem s_drop (hx : okL L G = true) (ha : PE X a (tE C G sf W (.rd 9) a')) (hs : swapsWith a none pos.line X.env = pure false) : PS X (.Expr a pos) (tSt C sf W rt L G G (.exp a')) := by
  refine PS.imp (ps_expr ha hs) fun D σ H ⟨F0, Fz, Hr, env, As, b, w⟩ => ⟨F0, Fz, Hr, env, As, b, ?_⟩
  refine (OutW.toO hx b w).imp fun d _ q v H1 Fz1 A e r n f => ?_
  exact q _ H1 Fz1 As (.of e) (b.grow e)
theorem s_pass : PS X (.Pass pos) (tSt C sf W rt L G G .pas) := PS.imp ps_pass fun D σ H ⟨F0, Fz, Hr, env, As, b, w⟩ => w σ H Fz As .refl b
theorem s_brk {GL : List Md} (hL : L.lp = some GL) (hl : lowG G GL = true) : PS X (.Break pos) (tSt C sf W rt L G G' .brk) := PS.imp ps_break fun D σ H ⟨F0, Fz, Hr, env, As, b, w⟩ => by
  obtain ⟨GL', e, w⟩ := w
  rw [hL] at e; cases e
  obtain ⟨Fz2, As2, b2, e2⟩ := b.low' hl
  exact w σ H Fz2 As2 e2 b2
theorem s_cnt {GL : List Md} (hL : L.lp = some GL) (hl : lowG G GL = true) : PS X (.Continue pos) (tSt C sf W rt L G G' .cnt) := PS.imp ps_continue fun D σ H ⟨F0, Fz, Hr, env, As, b, w⟩ => by
  obtain ⟨GL', e, w⟩ := w
  rw [hL] at e; cases e
  obtain ⟨Fz2, As2, b2, e2⟩ := b.low' hl
  exact w σ H Fz2 As2 e2 b2
theorem s_wall {st : Stmt} : PS X st (tSt C sf W rt L G G' .wall) := ⟨fun _ _ _ _ _ _ ⟨_, _, _, _, _, _, w⟩ => (show False from w).elim⟩
theorem s_retN : PS X (.Return none pos) (tSt C sf W rt L G G' .retN) := PS.imp ps_retN fun D σ H ⟨F0, Fz, Hr, env, As, b, w⟩ => by
  refine w .non H Fz [] b.ext ?_ List.nodup_nil (fun a ha => by cases ha)
  exact ow_of (d := .non) (by simp only [Val]) (by simp) (by simp) (by simp) rt
theorem s_ret (hx : okL L G = true) (ha : PE X a (tE C G sf W (.ow rt) a')) : PS X (.Return (some a) pos) (tSt C sf W rt L G G' (.ret a')) := by
  refine PS.imp (ps_ret ha) fun D σ H ⟨F0, Fz, Hr, env, As, b, w⟩ => ⟨F0, Fz, Hr, env, As, b, ?_⟩
  refine (OutW.toO hx b w).imp fun d _ q v H1 Fz1 A e r n f => ?_
  exact q v H1 Fz1 A (b.ext.trans e) r n fun a ha => ⟨b.ext.same.free (f a ha).1, (f a ha).2⟩
/-- what is owned is handed out -/
theorem s_retM {i k : Nat} {x : Str} {p : Pos} (hN : X.N[i]? = some x) (hv : Vis X.env.scope x) (hd : (x == ("__debug__" : Str)) = false) (hcd : (x == ("__classdict__" : Str)) = false) (hm : G[i]? = some (.ow k)) (hk : rt ≤ k) :
    PS X (.Return (some (.Name x p)) pos) (tSt C sf W rt L G G' (.ret (.nm i))) := by
  refine PS.imp (ps_ret (pe_var hN hv hd hcd)) fun D σ H ⟨F0, Fz, Hr, env, As, b, w⟩ => ?_
  have w : OutW C W D F0 Hr rt L G' Fz H ((Mp.getE env i).toO env fun d => .rt d env) := w
  cases h : Mp.getE env i with
  | bad => rw [h] at w; exact (show False from w).elim
  | exc d => exact absurd h getE_exc
  | ok d =>
    rw [h] at w
    obtain ⟨e1, e2⟩ := getE_ok h
    obtain ⟨v, ev, q⟩ := b.look hm e1 e2
    refine ⟨v, ev, ?_⟩
    have q : Ow C Fz H k d v (As i) := q
    obtain ⟨A1, s1, q1⟩ := Ow.less rt k d v (As i) hk (b.nd i) q
    have mu := Ow.mut k d v (As i) q
    have w : ∀ v H' Fz' A, Ext F0 Hr Fz' H' → Rs C (.ow rt) Fz' H' d v A → A.Nodup → (∀ a ∈ A, Hr a = none ∧ ¬ Fz' a) → D.rt v H' := w
    refine w v H (fun a => Fz a ∨ (a ∈ As i ∧ a ∉ A1)) A1 ?_ (q1 _ (fun _ h => .inl h) fun a h1 h2 => .inr ⟨h1, h2⟩) ((b.nd i).sublist s1) fun a ha => ⟨(b.own i a (s1.subset ha)).2, fun z => ?_⟩
    · refine ⟨b.ext.same, fun a h => .inl (b.ext.sub a h), fun a h => ?_, fun a h => ?_⟩
      · rcases h with h | ⟨h, _⟩
        · exact b.ext.new a h
        · exact .inr (b.own i a h).2
      · rcases h with h | ⟨h, _⟩
        · exact b.ext.trk a h
        · obtain ⟨o, ho, _⟩ := mu a h
          exact ⟨o, ho⟩
    · rcases z with z | ⟨_, z⟩
      · exact (b.own i a (s1.subset ha)).1 z
      · exact z ha
end
end MpS

/-! MpSt2: statements in a row, if, for, while. -/
namespace MpS
open PySem PySem.Spec PyProof.Rows L2

section
variable {C : Cfg} {G G' G1 G2 G3 : List Md} {F0 Fz Fz' Fz1 Fz2 : Addr → Prop} {Hr H H' H1 H2 : Hp} {env env' : List Mp.D} {σ : L2.St} {As : Nat → List Addr} {E : XK} {kd ka : Kd} {Q : VK} {sf : Mp.Sf} {W : WX}
variable {X : Cx} {a b c tg : Expr} {a' b' c' e' : Mp.E} {pos : Pos} {D : Ends} {rt : Nat} {L : Lx}
theorem ss_nil : PSs X [] (tSs C sf W rt L G G []) := PSs.imp pss_nil fun D σ H ⟨F0, Fz, Hr, env, As, b, w⟩ => w σ H Fz As .refl b
/-- other ends -/
theorem OutW.ends {o : Mp.O} {D D' : Ends} {L' : Lx} {G1 G2 : List Md} {Fz : Addr → Prop} {H : Hp}
    (h : OutW C W D F0 Hr rt L G1 Fz H o)
    (hn : ∀ env', o = .nx env' → OutW C W D' F0 Hr rt L' G2 Fz H (.nx env')) (hb : ∀ env', o = .br env' → OutW C W D' F0 Hr rt L' G2 Fz H (.br env')) (hc : ∀ env', o = .ct env' → OutW C W D' F0 Hr rt L' G2 Fz H (.ct env'))
    (hr : D'.rt = D.rt) (ht : L'.tr = L.tr) : OutW C W D' F0 Hr rt L' G2 Fz H o := by
  cases o with
  | nx env => exact hn env rfl
  | br env => exact hb env rfl
  | ct env => exact hc env rfl
  | rt d env =>
    intro v H' Fz' A e r n f
    rw [hr]
    exact h v H' Fz' A e r n f
  | ex d env => exact fun σ' H' Fz' As' G1 hg e b => h σ' H' Fz' As' G1 (fun GX z => hg GX (by rw [ht]; exact z)) e b
  | bad => exact h
theorem ss_cons {st : Stmt} {sts : List Stmt} {s : Mp.S} {ss : List Mp.S} (h1 : PS X st (tSt C sf W rt L G G1 s)) (h2 : PSs X sts (tSs C sf W rt L G1 G2 ss)) : PSs X (st :: sts) (tSs C sf W rt L G G2 (s :: ss)) := by
  refine PSs.imp (pss_cons h1 h2) fun D σ H ⟨F0, Fz, Hr, env, As, b, w⟩ => ⟨F0, Fz, Hr, env, As, b, ?_⟩
  have w : OutW C W D F0 Hr rt L G2 Fz H (match Mp.exec s sf env with | .nx e => Mp.execs ss sf e | o => o) := w
  cases h : Mp.exec s sf env with
  | nx e =>
    rw [h] at w
    exact fun σ' H' Fz' As' ev b' => ⟨F0, Fz', Hr, e, As', b', OutW.mono ev w⟩
  | br e => rw [h] at w; exact w
  | ct e => rw [h] at w; exact w
  | rt d e => rw [h] at w; exact w
  | ex d e => rw [h] at w; exact w
  | bad => rw [h] at w; exact w
theorem s_ifs {sa sb : List Stmt} {ta tb : List Mp.S} (hx : okL L G = true) (hc : PT X c (tT C G sf W c')) (ha : PSs X sa (tSs C sf W rt L G G1 ta)) (hb : PSs X sb (tSs C sf W rt L G G2 tb)) (l1 : lowG G1 G3 = true) (l2 : lowG G2 G3 = true) :
    PS X (.If c sa sb pos) (tSt C sf W rt L G G3 (.ifs c' ta tb)) := by
  refine PS.imp (ps_if hc ha hb) fun D σ H ⟨F0, Fz, Hr, env, As, b, w⟩ => ⟨F0, Fz, Hr, env, As, b, ?_⟩
  have w := OutW.toO hx b (show OutW C W D F0 Hr rt L G3 Fz H (((Mp.ev c' sf env).bind fun x => (Mp.truD x).bind fun r => .ok (.bl r)).toO env fun r => match r with | .bl true => Mp.execs ta sf env | _ => Mp.execs tb sf env) from w)
  cases h : Mp.ev c' sf env with
  | bad => rw [h] at w; exact (show False from w).elim
  | exc x => rw [h] at w; exact w
  | ok d =>
    rw [h] at w
    simp only [Mp.R.bind_ok] at w ⊢
    cases h2 : Mp.truD d with
    | bad => rw [h2] at w; exact (show False from w).elim
    | exc x => exact absurd h2 truD_exc
    | ok r =>
      rw [h2] at w
      intro H' Fz' e
      cases r with
      | true => exact iteT ⟨F0, Fz', Hr, env, As, b.grow e, OutW.mono (.of e) (OutW.low l1 w)⟩
      | false => exact iteF ⟨F0, Fz', Hr, env, As, b.grow e, OutW.mono (.of e) (OutW.low l2 w)⟩
/-- one turn of a loop -/
def forF (tg : List Nat) (body : List Mp.S) (sf : Mp.Sf) : Mp.D → List Mp.D → Mp.O := fun x env => match Mp.setTg tg x env with
  | some env' => Mp.execs body sf env'
  | none => .bad
theorem s_for {it : Expr} {it' : Mp.E} {is : List Nat} {body : List Stmt} {tb : List Mp.S} (hx : okL L G = true) (hw : wkIt it' = true → is.length ≠ 1) (hK : X.K = C.K) (hp : PassesOwn (model X.prog X.w) X.A X.env X.xe) (hc : X.calm = true) (hi : PI X tg it (tI C G sf W true it')) (hg : PG X tg (gT X.K is)) (hs : ∀ x, foldedSetIterable it X.env x = pure x)
    (hl : ∀ i ∈ is, i < G1.length) (na : noAls is G1 = true) (h0 : lowG G G1 = true) (hb : PSs X body (tSs C sf W rt { L with lp := some G1 } (setFr is G1) G2 tb)) (h1 : lowG G2 G1 = true) : PS X (.For tg it body [] pos) (tSt C sf W rt L G G1 (.for_ is it' tb)) := by
  refine PS.imp (ps_for hp hc hi hg hb hs) fun D σ H ⟨F0, Fz, Hr, env, As, b, w⟩ => ⟨F0, Fz, Hr, env, As, b, ?_⟩
  have w := OutW.toO hx b (show OutW C W D F0 Hr rt L G1 Fz H ((Mp.ev it' sf env).toO env fun c => (Mp.items c).toOl env fun xs => Mp.forGo (forF is tb sf) xs env) from w)
  have bb : Wg C (fun cls dx H' => W cls dx σ H') Fz H ((Mp.ev it' sf env).bind Mp.items) fun xs => OutW C W D F0 Hr rt L G1 Fz H (Mp.forGo (forF is tb sf) xs env) := by
    cases h : Mp.ev it' sf env with
    | bad => rw [h] at w; exact w
    | exc x => rw [h] at w; exact w
    | ok d =>
      rw [h] at w
      exact OutW.toOl hx b w
  refine bb.imp fun ds _ q J Hi Fzi Sp S ei src hS spok => ?_
  -- the frame at the loop's start, lowered
  have bi := b.grow ei
  obtain ⟨FzS, AsS, bS, evS⟩ := bi.low' h0
  have ev0 : Evo Fz H FzS Hi := (Evo.of ei).trans evS
  have hS0 : S FzS Hi := src.keep _ _ _ _ hS evS.sub evS.keep fun a _ o h => h
  have sp0 : ∀ a, Sp a → FzS a ∨ ∃ o, Hr a = some o := fun a h => by
    rcases spok rfl a h with z | z
    · exact .inl (evS.sub a z)
    · exact .inr z
  -- what is walked stands
  have stand : ∀ {Fz2 : Addr → Prop} {H2 : Hp} {σ2 : L2.St} {env2 : List Mp.D} {As2 : Nat → List Addr} {Gx : List Md}, Evo FzS Hi Fz2 H2 → BI C Gx F0 Fz2 Hr env2 σ2 H2 As2 → S Fz2 H2 := fun {Fz2 H2 σ2 env2 As2 Gx} ev b2 =>
    src.keep _ _ _ _ hS0 ev.sub ev.keep fun a h o e => by
      rcases sp0 a h with z | ⟨o', z⟩
      · exact ev.keep.fz a o z e
      · have := bS.ext.same a o' z
        rw [this] at e; cases e
        exact b2.ext.same a _ z
  refine ⟨fun i m σ H => m = ds.length - i ∧ i ≤ ds.length ∧ ∃ Fz env As, Evo FzS Hi Fz H ∧ BI C G1 F0 Fz Hr env σ H As ∧ OutW C W D F0 Hr rt L G1 Fz H (Mp.forGo (forF is tb sf) (ds.drop i) env), ⟨ds.length, by simp, Nat.zero_le _, FzS, env, AsS, .refl, bS, by simpa using OutW.mono ev0 q⟩, ?_⟩
  rintro i m σ2 H2 ⟨rfl, hle, Fz2, env2, As2, ev2, b2, w2⟩
  have hS2 := stand ev2 b2
  by_cases hlt : i < ds.length
  · refine .inr ⟨src.go i Fz2 H2 hS2 hlt, fun σ' H' => i + 1 ≤ ds.length ∧ ∃ Fz env As, Evo FzS Hi Fz H' ∧ BI C G1 F0 Fz Hr env σ' H' As ∧ OutW C W D F0 Hr rt L G1 Fz H' (Mp.forGo (forF is tb sf) (ds.drop (i + 1)) env), fun σ' H' p => ⟨ds.length - (i + 1), by omega, rfl, p.1, p.2⟩, fun x H3 hyl => ?_⟩
    have hxi : ds[i]? = some ds[i] := by simp [hlt]
    obtain ⟨same3, hv⟩ := src.yld i Fz2 H2 x H3 ds[i] hS2 hxi hyl
    have e3 : Ext Fz2 H2 Fz2 H3 := ⟨same3, fun _ h => h, fun _ h => .inl h, fun a h => by obtain ⟨o, e⟩ := b2.ext.trk a h; exact ⟨o, same3 a o e⟩⟩
    have b3 := b2.grow e3
    have ev3 : Evo FzS Hi Fz2 H3 := ev2.trans (.of e3)
    rw [List.drop_eq_getElem_cons hlt] at w2
    have w2 : OutW C W D F0 Hr rt L G1 Fz2 H2 (match forF is tb sf ds[i] env2 with | .nx e => Mp.forGo (forF is tb sf) (ds.drop (i + 1)) e | .ct e => Mp.forGo (forF is tb sf) (ds.drop (i + 1)) e | .br e => .nx e | o => o) := w2
    replace w2 := OutW.mono (.of e3) w2
    cases hset : Mp.setTg is ds[i] env2 with
    | none =>
      have : forF is tb sf ds[i] env2 = .bad := by unfold forF; rw [hset]
      rw [this] at w2
      exact (show False from w2).elim
    | some env3 =>
      have hf : forF is tb sf ds[i] env2 = Mp.execs tb sf env3 := by unfold forF; rw [hset]
      rw [hf] at w2
      refine gT_okW hK hset b3 hv (fun j hj => by rw [← b3.l1]; exact hl j hj) na hw fun σ4 As4 b4 _ => ⟨F0, Fz2, Hr, env3, As4, b4, ?_⟩
      have next : ∀ e, OutW C W D F0 Hr rt L G1 Fz2 H3 (Mp.forGo (forF is tb sf) (ds.drop (i + 1)) e) → ∀ Gx, lowG Gx G1 = true → ∀ σ' H' Fz' As', Evo Fz2 H3 Fz' H' → BI C Gx F0 Fz' Hr e σ' H' As' →
          i + 1 ≤ ds.length ∧ ∃ Fz env As, Evo FzS Hi Fz H' ∧ BI C G1 F0 Fz Hr env σ' H' As ∧ OutW C W D F0 Hr rt L G1 Fz H' (Mp.forGo (forF is tb sf) (ds.drop (i + 1)) env) := fun e wn Gx hg σ' H' Fz' As' ev b' => by
        obtain ⟨Fz5, As5, b5, ev5⟩ := b'.low' hg
        exact ⟨hlt, Fz5, e, As5, ev3.trans (ev.trans ev5), b5, OutW.mono (ev.trans ev5) wn⟩
      cases hx : Mp.execs tb sf env3 with
      | nx e => rw [hx] at w2; exact next e w2 G2 h1
      | ct e =>
        rw [hx] at w2
        exact ⟨G1, rfl, next e w2 G1 (by
          clear w2 next hx
          have : ∀ G : List Md, lowG G G = true := by
            intro G
            induction G with
            | nil => rfl
            | cons m G ih =>
              simp only [lowG, Bool.and_eq_true]
              exact ⟨by cases m <;> simp [lowM], ih⟩
          exact this G1)⟩
      | br e => rw [hx] at w2; exact ⟨G1, rfl, w2⟩
      | rt d e => rw [hx] at w2; exact w2
      | ex d e => rw [hx] at w2; exact w2
      | bad => rw [hx] at w2; exact w2
  · have e : i = ds.length := by omega
    subst e
    refine .inl ⟨src.stop _ Fz2 H2 hS2 (Nat.le_refl _), ?_⟩
    rw [List.drop_length] at w2
    exact w2 σ2 H2 Fz2 As2 .refl b2
theorem lowG_refl : ∀ G : List Md, lowG G G = true
  | [] => rfl
  | m :: G => by
    simp only [lowG, Bool.and_eq_true]
    exact ⟨by cases m <;> simp [lowM], lowG_refl G⟩
theorem s_whl {body : List Stmt} {tb : List Mp.S} (hx1 : okL L G1 = true) (hp : PassesOwn (model X.prog X.w) X.A X.env X.xe) (hc : PT X c (tT C G1 sf W c')) (h0 : lowG G G1 = true) (hb : PSs X body (tSs C sf W rt { L with lp := some G1 } G1 G2 tb)) (h1 : lowG G2 G1 = true) :
    PS X (.While c body [] pos) (tSt C sf W rt L G G1 (.whl c' tb)) := by
  refine PS.imp (ps_while hp hc hb) fun D σ H q => ?_
  obtain ⟨F0, Fz, Hr, env, As, b, w⟩ := tSt_low h0 q
  have w : OutW C W D F0 Hr rt L G1 Fz H (Mp.whlGo (fun env => (Mp.ev c' sf env).bind Mp.truD) (fun env => Mp.execs tb sf env) 100000 env) := w
  refine ⟨fun m σ H => ∃ Fz env As, BI C G1 F0 Fz Hr env σ H As ∧ OutW C W D F0 Hr rt L G1 Fz H (Mp.whlGo (fun env => (Mp.ev c' sf env).bind Mp.truD) (fun env => Mp.execs tb sf env) m env), ⟨100000, Fz, env, As, b, w⟩, ?_⟩
  rintro m σ2 H2 ⟨Fz2, env2, As2, b2, w2⟩
  cases m with
  | zero => exact (show False from w2).elim
  | succ m =>
    refine ⟨F0, Fz2, Hr, env2, As2, b2, ?_⟩
    unfold Mp.whlGo at w2
    cases hc2 : (Mp.ev c' sf env2).bind Mp.truD with
    | bad => rw [hc2] at w2; exact w2
    | exc x =>
      rw [hc2] at w2
      exact ExW.at hx1 b2 w2
    | ok r =>
      rw [hc2] at w2
      intro H3 Fz3 e3
      replace w2 := OutW.mono (.of e3) w2
      cases r with
      | false => exact iteF (w2 σ2 H3 Fz3 As2 .refl (b2.grow e3))
      | true =>
        have w2 : OutW C W D F0 Hr rt L G1 Fz3 H3 (match Mp.execs tb sf env2 with | .nx e => Mp.whlGo (fun env => (Mp.ev c' sf env).bind Mp.truD) (fun env => Mp.execs tb sf env) m e | .ct e => Mp.whlGo (fun env => (Mp.ev c' sf env).bind Mp.truD) (fun env => Mp.execs tb sf env) m e | .br e => .nx e | o => o) := w2
        refine iteT ⟨fun σ' H' => ∃ Fz env As, BI C G1 F0 Fz Hr env σ' H' As ∧ OutW C W D F0 Hr rt L G1 Fz H' (Mp.whlGo (fun env => (Mp.ev c' sf env).bind Mp.truD) (fun env => Mp.execs tb sf env) m env), fun σ' H' p => ⟨m, by omega, p⟩, F0, Fz3, Hr, env2, As2, b2.grow e3, ?_⟩
        have next : ∀ e, OutW C W D F0 Hr rt L G1 Fz3 H3 (Mp.whlGo (fun env => (Mp.ev c' sf env).bind Mp.truD) (fun env => Mp.execs tb sf env) m e) → ∀ Gx, lowG Gx G1 = true → ∀ σ' H' Fz' As', Evo Fz3 H3 Fz' H' → BI C Gx F0 Fz' Hr e σ' H' As' →
            ∃ Fz env As, BI C G1 F0 Fz Hr env σ' H' As ∧ OutW C W D F0 Hr rt L G1 Fz H' (Mp.whlGo (fun env => (Mp.ev c' sf env).bind Mp.truD) (fun env => Mp.execs tb sf env) m env) := fun e wn Gx hg σ' H' Fz' As' ev b' => by
          obtain ⟨Fz5, As5, b5, ev5⟩ := b'.low' hg
          exact ⟨Fz5, e, As5, b5, OutW.mono (ev.trans ev5) wn⟩
        cases hx : Mp.execs tb sf env2 with
        | nx e => rw [hx] at w2; exact next e w2 G2 h1
        | ct e => rw [hx] at w2; exact ⟨G1, rfl, next e w2 G1 (lowG_refl G1)⟩
        | br e => rw [hx] at w2; exact ⟨G1, rfl, w2⟩
        | rt d e => rw [hx] at w2; exact w2
        | ex d e => rw [hx] at w2; exact w2
        | bad => rw [hx] at w2; exact w2
end
end MpS

/-! MpSt3: what is owned is written. -/
namespace MpS
open PySem PySem.Spec PyProof.Rows L2

section
variable {C : Cfg} {Fz Fz' Fz1 Fz2 : Addr → Prop} {H H' H1 H2 : Hp}
/-! ### the place in what is owned -/
/-- a path in the heap -/
def VPath (H : Hp) : V → List Mp.D → V → Prop
  | v, [], v0 => v0 = v
  | v, .int i :: ps, v0 => ∃ p us u, v = .ref p ∧ H p = some (.lst us) ∧ atI us i = some u ∧ VPath H u ps v0
  | _, _, _ => False
structure Focus (C : Cfg) (Fz : Addr → Prop) (H : Hp) (K : Nat) (d : Mp.D) (v : V) (A : List Addr) (ps : List Mp.D) (d0 : Mp.D) (v0 : V) (A0 : List Addr) (K0 : Nat) : Prop where
  ow : Ow C Fz H K0 d0 v0 A0
  sub : ∀ a ∈ A0, a ∈ A
  nd : A0.Nodup
  path : VPath H v ps v0
  top : ps ≠ [] → ∀ p, v = .ref p → p ∉ A0
  root : ps ≠ [] → ∀ p, v = .ref p → p ∈ A
  back : ∀ (m : Mp.Mu) (args : List Mp.D) (d1 : Mp.D) (Fz' : Addr → Prop) (H' : Hp) (A1 : List Addr), (∀ a, Fz a → Fz' a) → Keep Fz H H' → (∀ a ∈ A, a ∉ A0 → ∀ o, H a = some o → H' a = some o) → Ow C Fz' H' K0 d1 v0 A1 → Mp.muD m args d0 = .ok d1 → A1.Nodup → (∀ a ∈ A1, a ∈ A → a ∈ A0) →
    ∃ d' A', Mp.muAt m args ps d = .ok d' ∧ Ow C Fz' H' K d' v A' ∧ A'.Nodup ∧ ∀ a ∈ A', a ∈ A ∨ a ∈ A1
theorem ixL_lt {n : Nat} {i : Int} {j : Nat} (h : Mp.ixL n i = some j) : j < n := by
  unfold Mp.ixL at h
  split at h
  · split at h
    · cases h; omega
    · cases h
  · split at h
    · cases h; omega
    · cases h
theorem owl_at {K : Nat} : ∀ {xs : List Mp.D} {us : List V} {B : List Addr} {j : Nat} {x : Mp.D}, OwL (Ow C Fz H K) xs us B → xs[j]? = some x → ∃ u B1 Bj B2, us[j]? = some u ∧ B = B1 ++ (Bj ++ B2) ∧ Ow C Fz H K x u Bj ∧
    ∀ (x' : Mp.D) (u' : V) (Fz' : Addr → Prop) (H' : Hp) (Bj' : List Addr), (∀ a, Fz a → Fz' a) → Keep Fz H H' → (∀ a ∈ B, a ∉ Bj → ∀ o, H a = some o → H' a = some o) → B.Nodup → Ow C Fz' H' K x' u' Bj' → OwL (Ow C Fz' H' K) (xs.set j x') (us.set j u') (B1 ++ (Bj' ++ B2))
  | [], _, _, _, _, _, h => by simp at h
  | d :: xs, us, B, 0, x, h, e => by
    obtain ⟨u, us', Ba, Bb, rfl, rfl, h1, h2⟩ := h
    simp at e
    subst e
    refine ⟨u, [], Ba, Bb, by simp, rfl, h1, fun x' u' Fz' H' Bj' hs kp hk nd ow => ⟨u', us', Bj', Bb, rfl, rfl, ow, ?_⟩⟩
    exact h2.imp fun d v C hC h => Ow.keep hs kp K d v C (fun a ha => hk a (List.mem_append_right _ (hC a ha)) fun z => (List.nodup_append.mp nd).2.2 a z a (hC a ha) rfl) h
  | d :: xs, us, B, j + 1, x, h, e => by
    obtain ⟨u, us', Ba, Bb, rfl, rfl, h1, h2⟩ := h
    obtain ⟨w, B1, Bj, B2, e1, rfl, ow, re⟩ := owl_at h2 (by simpa using e)
    refine ⟨w, Ba ++ B1, Bj, B2, by simpa using e1, by simp [List.append_assoc], ow, fun x' u' Fz' H' Bj' hs kp hk nd ow' => ?_⟩
    obtain ⟨n1, n2, n3⟩ := List.nodup_append.mp nd
    refine ⟨u, us'.set j u', Ba, B1 ++ (Bj' ++ B2), by simp, by simp [List.append_assoc], ?_, re x' u' Fz' H' Bj' hs kp (fun a ha hn => hk a (List.mem_append_right _ ha) hn) n2 ow'⟩
    exact Ow.keep hs kp K d u Ba (fun a ha => hk a (List.mem_append_left _ ha) fun z => n3 a ha a (by simp [z]) rfl) h1
theorem focus : ∀ (ps : List Mp.D) (K : Nat) (d : Mp.D) (v : V) (A : List Addr) (d0 : Mp.D), Ow C Fz H K d v A → A.Nodup → Mp.locD ps d = some d0 → ps.length ≤ K → ∃ v0 A0, Focus C Fz H K d v A ps d0 v0 A0 (K - ps.length)
  | [], K, d, v, A, d0, ow, nd, hl, _ => by
    cases hl
    exact ⟨v, A, ow, fun _ h => h, nd, rfl, fun z => (z rfl).elim, fun z => (z rfl).elim, fun m args d1 Fz' H' A1 hs kp hk ow1 mu n1 _ => ⟨d1, A1, mu, ow1, n1, fun a h => .inr h⟩⟩
  | q :: ps, 0, d, v, A, d0, ow, nd, hl, h => by simp at h
  | q :: ps, K + 1, d, v, A, d0, ow, nd, hl, h => by
    cases q <;> first | (simp [Mp.locD] at hl; done) | skip
    cases d <;> first | (simp [Mp.locD] at hl; done) | skip
    rename_i i xs
    obtain ⟨p, us, B, rfl, hp, rfl, l⟩ := ow
    simp only [Mp.locD] at hl
    cases hj : Mp.ixL xs.length i with
    | none => rw [hj] at hl; cases hl
    | some j =>
      rw [hj] at hl
      simp only at hl
      cases hx : xs[j]? with
      | none => rw [hx] at hl; cases hl
      | some x =>
        rw [hx] at hl
        simp only at hl
        obtain ⟨np, nB⟩ := List.nodup_cons.mp nd
        obtain ⟨u, B1, Bj, B2, e1, rfl, ow1, re⟩ := owl_at l hx
        obtain ⟨m1, m2, m3⟩ := List.nodup_append.mp nB
        obtain ⟨m4, m5, m6⟩ := List.nodup_append.mp m2
        obtain ⟨v0, A0, fo⟩ := focus ps K x u Bj d0 ow1 m4 hl (by simpa using h)
        have elen : K + 1 - (Mp.D.int i :: ps).length = K - ps.length := by simp
        rw [elen]
        have hat : atI us i = some u := by
          unfold atI
          have : ixN us.length i = Mp.ixL xs.length i := by rw [l.length]; rfl
          rw [this, hj]
          exact e1
        refine ⟨v0, A0, fo.ow, fun a ha => List.mem_cons_of_mem _ (List.mem_append_right _ (List.mem_append_left _ (fo.sub a ha))), fo.nd, ⟨p, us, u, rfl, hp, hat, fo.path⟩, fun _ p' e z => by cases e; exact np (List.mem_append_right _ (List.mem_append_left _ (fo.sub p z))), fun _ p' e => by cases e; exact List.mem_cons_self, fun m args d1 Fz' H' A1 hs kp hk ow' mu n1 dj => ?_⟩
        have inB : ∀ a ∈ Bj, a ∈ p :: (B1 ++ (Bj ++ B2)) := fun a ha => List.mem_cons_of_mem _ (List.mem_append_right _ (List.mem_append_left _ ha))
        obtain ⟨x', Bj', mu', ow2, n2, sub2⟩ := fo.back m args d1 Fz' H' A1 hs kp (fun a ha hn => hk a (inB a ha) hn) ow' mu n1 (fun a h1 h2 => dj a h1 (inB a h2))
        have pn : ∀ a ∈ B1, a ∉ A0 := fun a ha z => m3 a ha a (List.mem_append_left _ (fo.sub a z)) rfl
        have p2 : ∀ a ∈ B2, a ∉ A0 := fun a ha z => m6 a (fo.sub a z) a ha rfl
        have pp : p ∉ A0 := fun z => np (List.mem_append_right _ (List.mem_append_left _ (fo.sub p z)))
        have nA1 : ∀ a, (a ∈ B1 ∨ a ∈ B2 ∨ a = p) → a ∉ Bj' := fun a ha z => by
          have hA : a ∈ p :: (B1 ++ (Bj ++ B2)) := by
            rcases ha with h | h | h
            · exact List.mem_cons_of_mem _ (List.mem_append_left _ h)
            · exact List.mem_cons_of_mem _ (List.mem_append_right _ (List.mem_append_right _ h))
            · rw [h]; exact List.mem_cons_self
          have nBj : a ∉ Bj := fun zz => by
            rcases ha with h | h | h
            · exact m3 a h a (List.mem_append_left _ zz) rfl
            · exact m6 a zz a h rfl
            · rw [h] at zz; exact np (List.mem_append_right _ (List.mem_append_left _ zz))
          rcases sub2 a z with z | z
          · exact nBj z
          · exact nBj (fo.sub a (dj a z hA))
        have l2 := re x' u Fz' H' Bj' hs kp (fun a ha hn => hk a (List.mem_cons_of_mem _ ha) fun z => hn (fo.sub a z)) nB ow2
        have hset : us.set j u = us := List.ext_getElem? fun k => by
          by_cases hk' : j = k
          · subst hk'
            rw [List.getElem?_set_self (by obtain ⟨h, _⟩ := List.getElem?_eq_some_iff.mp e1; exact h), e1]
          · rw [List.getElem?_set_ne hk']
        rw [hset] at l2
        refine ⟨.lst (xs.set j x'), p :: (B1 ++ (Bj' ++ B2)), ?_, ⟨p, us, B1 ++ (Bj' ++ B2), rfl, hk p List.mem_cons_self pp _ hp, rfl, l2⟩, ?_, ?_⟩
        · simp only [Mp.muAt, hj, hx, mu', Mp.R.bind_ok]
        · refine List.nodup_cons.mpr ⟨fun z => ?_, nodup_app m1 (nodup_app n2 m5 fun a ha hb => nA1 a (.inr (.inl hb)) ha) fun a ha hb => ?_⟩
          · rcases List.mem_append.mp z with z | z
            · exact np (List.mem_append_left _ z)
            · rcases List.mem_append.mp z with z | z
              · exact nA1 p (.inr (.inr rfl)) z
              · exact np (List.mem_append_right _ (List.mem_append_right _ z))
          · rcases List.mem_append.mp hb with hb | hb
            · exact nA1 a (.inl ha) hb
            · exact m3 a ha a (List.mem_append_right _ hb) rfl
        · intro a ha
          rcases List.mem_cons.mp ha with rfl | ha
          · exact .inl List.mem_cons_self
          · rcases List.mem_append.mp ha with ha | ha
            · exact .inl (List.mem_cons_of_mem _ (List.mem_append_left _ ha))
            · rcases List.mem_append.mp ha with ha | ha
              · rcases sub2 a ha with z | z
                · exact .inl (inB a z)
                · exact .inr z
              · exact .inl (List.mem_cons_of_mem _ (List.mem_append_right _ (List.mem_append_right _ ha)))
end
end MpS

/-! MpSt4: append, item assignment, fields, several names. -/
namespace MpS
open PySem PySem.Spec PyProof.Rows L2

section
variable {C : Cfg} {G G' G1 G2 G3 : List Md} {F0 Fz Fz' Fz1 Fz2 : Addr → Prop} {Hr H H' H1 H2 : Hp} {env env' : List Mp.D} {σ : L2.St} {As : Nat → List Addr} {E : XK} {kd ka : Kd} {Q : VK} {sf : Mp.Sf} {W : WX}
variable {X : Cx} {a b c tg : Expr} {a' b' c' e' : Mp.E} {pos : Pos} {D : Ends} {rt : Nat} {L : Lx}
/-- a slot's own heap is written -/
theorem BI.write (b : BI C G F0 Fz Hr env σ H As) {i : Nat} {m : Md} {d' : Mp.D} {v : V} {A' : List Addr} (hm : G[i]? = some m) (hv : σ[i]? = some (some v)) (hs : ∀ a, Fz a → Fz' a) (kp : Keep Fz H H') (ho : ∀ j a, j ≠ i → a ∈ As j → ∀ o, H a = some o → H' a = some o) (sm : Same Hr H') (trk : ∀ a, Fz' a → ∃ o, H' a = some o)
    (sl : SlotOk C Fz' Hr H' m d' (some v) A') (nd : A'.Nodup) (hA : ∀ a ∈ A', a ∈ As i ∨ (Hr a = none ∧ ¬ Fz a ∧ ∀ j, a ∉ As j)) (hF : ∀ a, Fz' a → Fz a ∨ (Hr a = none ∧ (∀ j, a ∉ As j) ∧ a ∉ A'))
    (hsol : solid m = true) (hal : ∀ k, G[k]? = some (.al i) → AlOk (env.set i d') σ H' k i) :
    BI C G F0 Fz' Hr (env.set i d') σ H' (fun j => if j = i then A' else As j) where
  al := fun j k m1 g1 g2 g3 => by
    have hj : j ≠ i := by
      rintro rfl
      rw [hm] at g1
      cases g1
      cases hsol
    by_cases e : k = i
    · subst e
      exact hal j g1
    · have h0 : AlOk env σ H' j k := (b.al j k m1 g1 g2 g3).heap fun p us xs hx hp hl => ⟨us, by
        rcases b.root g2 g3 hx hp with z | z | ⟨o, z⟩
        · exact ho k p e z _ hl
        · exact kp.fz p _ z hl
        · have := b.ext.same p o z
          rw [hl] at this
          cases this
          exact sm p _ z, fun _ _ h => h⟩
      unfold AlOk at h0 ⊢
      rw [List.getElem?_set_ne (Ne.symm hj), List.getElem?_set_ne (Ne.symm e)]
      exact h0
  l1 := b.l1
  l2 := by simpa using b.l2
  slot := fun j m' d'' o' h1 h2 h3 => by
    by_cases e : j = i
    · subst e
      have hi : j < env.length := by rw [b.l2]; exact (List.getElem?_eq_some_iff.mp hv).1
      rw [List.getElem?_set_self hi] at h2
      rw [hm] at h1
      rw [hv] at h3
      cases h1; cases h2; cases h3
      simp only [if_true]
      exact sl
    · rw [List.getElem?_set_ne (Ne.symm e)] at h2
      rw [if_neg e]
      rcases b.slot j m' d'' o' h1 h2 h3 with q | ⟨w, rfl, q⟩
      · exact .inl q
      · refine .inr ⟨w, rfl, ?_⟩
        cases m' with
        | fr => exact ⟨Val.keep hs kp _ w q.1, q.2⟩
        | bw k => exact ⟨Rd.same (Same.refl Hr) hs k _ w q.1, q.2⟩
        | ow k => exact Ow.keep hs kp k _ w _ (fun a ha => ho j a e ha) q
        | sf => exact ⟨q.1, Ow.keep hs kp 1 _ w _ (fun a ha => ho j a e ha) q.2⟩
        | al k => exact q
        | jk => exact q
        | ex => exact ⟨q.1, q.2.1.keep hs kp, q.2.2⟩
  far := fun j hj => by
    show (if j = i then A' else As j) = []
    have : j ≠ i := by rintro rfl; have := (List.getElem?_eq_some_iff.mp hv).1; omega
    rw [if_neg this]
    exact b.far j hj
  nd := fun j => by
    show (if j = i then A' else As j).Nodup
    split
    · exact nd
    · exact b.nd j
  dj := fun j k a h1 h2 => by
    have h1 : a ∈ (if j = i then A' else As j) := h1
    have h2 : a ∈ (if k = i then A' else As k) := h2
    by_cases ej : j = i
    · by_cases ek : k = i
      · omega
      · rw [if_pos ej] at h1
        rw [if_neg ek] at h2
        rcases hA a h1 with z | ⟨_, _, z⟩
        · have := b.dj i k a z h2; omega
        · exact absurd h2 (z k)
    · by_cases ek : k = i
      · rw [if_neg ej] at h1
        rw [if_pos ek] at h2
        rcases hA a h2 with z | ⟨_, _, z⟩
        · have := b.dj j i a h1 z; omega
        · exact absurd h1 (z j)
      · rw [if_neg ej] at h1
        rw [if_neg ek] at h2
        exact b.dj j k a h1 h2
  own := fun j a h => by
    have h : a ∈ (if j = i then A' else As j) := h
    have key : (¬ Fz a ∧ Hr a = none) ∧ ((∃ k, a ∈ As k) ∨ a ∈ A') := by
      split at h
      · refine ⟨?_, .inr h⟩
        rcases hA a h with z | ⟨z1, z2, _⟩
        · exact b.own i a z
        · exact ⟨z2, z1⟩
      · exact ⟨b.own j a h, .inl ⟨j, h⟩⟩
    refine ⟨fun z => ?_, key.1.2⟩
    rcases hF a z with z | ⟨_, z2, z3⟩
    · exact key.1.1 z
    · rcases key.2 with ⟨k, hk⟩ | hk
      · exact z2 k hk
      · exact z3 hk
  ext := ⟨sm, fun a h => hs a (b.ext.sub a h), fun a h => by
    rcases hF a h with z | ⟨z, _⟩
    · exact b.ext.new a z
    · exact .inr z, trk⟩
theorem VPath.same (s : Same H H') : ∀ {v : V} {ps : List Mp.D} {v0 : V}, VPath H v ps v0 → VPath H' v ps v0
  | _, [], _, h => h
  | v, q :: ps, v0, h => by
    cases q <;> first | (exact h.elim) | skip
    obtain ⟨p, us, u, e1, e2, e3, h⟩ := h
    exact ⟨p, us, u, e1, s _ _ e2, e3, VPath.same s h⟩
theorem VPath.uniq : ∀ {v : V} {ps : List Mp.D} {v0 v1 : V}, VPath H v ps v0 → VPath H v ps v1 → v0 = v1
  | _, [], _, _, h1, h2 => h1.trans h2.symm
  | v, q :: ps, v0, v1, h1, h2 => by
    cases q <;> first | (exact h1.elim) | skip
    obtain ⟨p, us, u, rfl, e2, e3, h1⟩ := h1
    obtain ⟨p', us', u', e1', e2', e3', h2⟩ := h2
    cases e1'
    rw [e2] at e2'
    cases e2'
    rw [e3] at e3'
    cases e3'
    exact h1.uniq h2
/-- a place: a name, or an item of one -/
inductive Plc (X : Cx) (C : Cfg) (G : List Md) (sf : Mp.Sf) (W : WX) : Expr → Nat → List Mp.E → Prop where
  | nm {x : Str} {p : Pos} {i : Nat} (hN : X.N[i]? = some x) (hv : Vis X.env.scope x) (hd : (x == ("__debug__" : Str)) = false) (hcd : (x == ("__classdict__" : Str)) = false) : Plc X C G sf W (.Name x p) i []
  | at_ {x : Str} {p p2 : Pos} {i : Nat} {k : Expr} {k' : Mp.E} (hN : X.N[i]? = some x) (hv : Vis X.env.scope x) (hd : (x == ("__debug__" : Str)) = false) (hcd : (x == ("__classdict__" : Str)) = false) (hx : PlainIx k) (hk : PE X k (tE C G sf W (.rd 9) k')) : Plc X C G sf W (.Subscript (.Name x p) k p2) i [k']
  | al {x : Str} {p : Pos} {i b : Nat} {m : Md} (hN : X.N[i]? = some x) (hv : Vis X.env.scope x) (hd : (x == ("__debug__" : Str)) = false) (hcd : (x == ("__classdict__" : Str)) = false) (hi : G[i]? = some (.al b)) (hm : G[b]? = some m) (hs : solid m = true) : Plc X C G sf W (.Name x p) b [.alj i b]
/-- a place's reading -/
def tPl (C : Cfg) (G : List Md) (sf : Mp.Sf) (W : WX) (i : Nat) (path : List Mp.E) : TE := fun σ H Q =>
  ∃ F0 Fz Hr env As v, BI C G F0 Fz Hr env σ H As ∧ σ[i]? = some (some v) ∧ Wg C (fun cls dx H' => W cls dx σ H') Fz H (Mp.evs path sf env) fun ps => ∀ H' Fz', Ext Fz H Fz' H' → ∃ v0, VPath H' v ps v0 ∧ Q v0 H'
theorem plc_pe {o : Expr} {i : Nat} {path : List Mp.E} (hK : X.K = C.K) (h : Plc X C G sf W o i path) : PE X o (tPl C G sf W i path) := by
  cases h with
  | nm hN hv hd hcd =>
    refine PE.imp (pe_var hN hv hd hcd) fun σ H Q ⟨F0, Fz, Hr, env, As, v, b, hs, w⟩ => ⟨v, hs, ?_⟩
    have w : ∀ H' Fz', Ext Fz H Fz' H' → ∃ v0, VPath H' v [] v0 ∧ Q v0 H' := w
    obtain ⟨v0, e, q⟩ := w H Fz (.refl b.ext.trk)
    have e : v0 = v := e
    rw [← e]; exact q
  | @al x p j i m hN hv hd hcd hi hm hs =>
    refine PE.imp (pe_var hN hv hd hcd) fun σ H Q ⟨F0, Fz, Hr, env, As, v, b, hs', w⟩ => ?_
    simp only [Mp.evs, Mp.ev] at w
    rcases b.al j i m hi hm hs with h | h | ⟨k, q, us, u, xs, h1, h2, hx, h3, h4, h5⟩
    · rw [h] at w; exact (show False from w).elim
    · rw [h] at w
      cases e : env[j]? with
      | none => rw [e] at w; exact (show False from w).elim
      | some d =>
        rw [e] at w
        cases d <;> exact (show False from w).elim
    · rw [h1, hx] at w
      rw [h3] at hs'
      cases hs'
      have w : ∀ H' Fz', Ext Fz H Fz' H' → ∃ v0, VPath H' (.ref q) [.int (k : Int)] v0 ∧ Q v0 H' := w
      obtain ⟨v0, ⟨q', us', u', e1, e2, e3, e4⟩, hq⟩ := w H Fz (.refl b.ext.trk)
      cases e1
      rw [h4] at e2
      cases e2
      have e5 : atI us (k : Int) = some u := by
        have hk : k < us.length := (List.getElem?_eq_some_iff.mp h5).1
        show Mp.atL us (k : Int) = _
        unfold Mp.atL Mp.ixL
        rw [if_pos (by omega), if_pos (by omega)]
        simpa using h5
      rw [e5] at e3
      cases e3
      have e4 : v0 = u := e4
      subst e4
      exact ⟨v0, h2, hq⟩
  | @at_ x p p2 i k k' hN hv hd hcd hx hk =>
    refine PE.imp (pe_ix ix_list (pe_var hN hv hd hcd) hk hx) fun σ H Q ⟨F0, Fz, Hr, env, As, v, b, hs, w⟩ => ⟨v, hs, F0, Fz, Hr, env, As, b, ?_⟩
    simp only [Mp.evs] at w
    cases h : Mp.ev k' sf env with
    | bad => rw [h] at w; exact (show False from w).elim
    | exc z => rw [h] at w; exact w
    | ok d =>
      rw [h] at w
      intro u H1 Fz1 A e r n f
      have w : ∀ H' Fz', Ext Fz H Fz' H' → ∃ v0, VPath H' v [d] v0 ∧ Q v0 H' := w
      obtain ⟨v0, hp, q⟩ := w H1 Fz1 e
      cases d <;> first | (exact hp.elim) | skip
      obtain ⟨p, us, u', rfl, h1, h2, h3⟩ := hp
      obtain rfl := Rd.int r.1
      have h3 : v0 = u' := h3
      subst h3
      exact ⟨p, us, _, v0, rfl, rfl, SqL.of h1, h2, q⟩
/-- what is owned at a path, at the heap as it is -/
theorem BI.focus (b : BI C G F0 Fz Hr env σ H As) {i K : Nat} {d d0 : Mp.D} {v : V} {ps : List Mp.D} (hm : G[i]? = some (.ow K)) (he : env[i]? = some d) (hd : d ≠ .un) (hv : σ[i]? = some (some v)) (hl : Mp.locD ps d = some d0) (h : ps.length ≤ K) :
    ∃ v0 A0, Focus C Fz H K d v (As i) ps d0 v0 A0 (K - ps.length) := by
  obtain ⟨w, e, q⟩ := b.look hm he hd
  rw [hv] at e
  cases e
  exact MpS.focus ps K d v (As i) d0 q (b.nd i) hl h
theorem evs_len : ∀ {es : List Mp.E} {ds : List Mp.D}, Mp.evs es sf env = .ok ds → ds.length = es.length
  | [], ds, h => by simp only [Mp.evs] at h; cases h; rfl
  | e :: es, ds, h => by
    simp only [Mp.evs] at h
    cases h1 : Mp.ev e sf env with
    | bad => rw [h1] at h; cases h
    | exc x => rw [h1] at h; cases h
    | ok d =>
      rw [h1] at h
      simp only [Mp.R.bind_ok] at h
      cases h2 : Mp.evs es sf env with
      | bad => rw [h2] at h; cases h
      | exc x => rw [h2] at h; cases h
      | ok ds' =>
        rw [h2] at h
        cases h
        simp [evs_len h2]
/-- the written slot's frame -/
theorem BI.done (b : BI C G F0 Fz Hr env σ H As) {i K K0 : Nat} {d d0 d1 : Mp.D} {v v0 : V} {ps args : List Mp.D} {A0 A1 : List Addr} {m : Mp.Mu} (hm : G[i]? = some (.ow K)) (hv : σ[i]? = some (some v)) (fo : Focus C Fz H K d v (As i) ps d0 v0 A0 K0)
    (hs : ∀ a, Fz a → Fz' a) (kp : Keep Fz H H') (ho : ∀ a, a ∉ A0 → ∀ o, H a = some o → H' a = some o) (trk : ∀ a, Fz' a → ∃ o, H' a = some o) (ow : Ow C Fz' H' K0 d1 v0 A1) (mu : Mp.muD m args d0 = .ok d1) (n1 : A1.Nodup) (hA : ∀ a ∈ A1, a ∈ A0 ∨ (Hr a = none ∧ ¬ Fz a ∧ ∀ j, a ∉ As j))
    (hF : ∀ a, Fz' a → Fz a ∨ (Hr a = none ∧ (∀ j, a ∉ As j) ∧ a ∉ A1)) (hna : noAl G i = true ∨ ps ≠ []) :
    ∃ d' As', Mp.muAt m args ps d = .ok d' ∧ BI C G F0 Fz' Hr (env.set i d') σ H' As' := by
  obtain ⟨d', A', mu', ow', n', sub⟩ := fo.back m args d1 Fz' H' A1 hs kp (fun a _ hn => ho a hn) ow mu n1 fun a h1 h2 => by
    rcases hA a h1 with z | ⟨_, _, z⟩
    · exact z
    · exact absurd h2 (z i)
  refine ⟨d', _, mu', b.write hm hv hs kp (fun j a hj ha => ho a fun z => ?_) (fun a o h => ?_) trk (.inr ⟨v, rfl, ow'⟩) n' (fun a ha => ?_) (fun a ha => ?_) rfl fun k hk => ?_⟩
  · have := b.dj j i a ha (fo.sub a z)
    exact hj this
  · refine ho a (fun z => ?_) o (b.ext.same a o h)
    have := (b.own i a (fo.sub a z)).2
    rw [this] at h; cases h
  · rcases sub a ha with z | z
    · exact .inl z
    · rcases hA a z with z | z
      · exact .inl (fo.sub a z)
      · exact .inr z
  · rcases hF a ha with z | ⟨z1, z2, z3⟩
    · exact .inl z
    · refine .inr ⟨z1, z2, fun z => ?_⟩
      rcases sub a z with z | z
      · exact z2 i z
      · exact z3 z
  · rcases hna with z | z
    · exact absurd hk (noAl_at z)
    · have hki : k ≠ i := by rintro rfl; rw [hm] at hk; cases hk
      have hlt : i < env.length := by rw [b.l2]; exact (List.getElem?_eq_some_iff.mp hv).1
      have hd' : ∃ ys, d' = .lst ys := by
        cases ps with
        | nil => exact (z rfl).elim
        | cons q ps =>
          cases q <;> first | (cases mu'; done) | skip
          cases d <;> first | (cases mu'; done) | skip
          rename_i i0 xs
          simp only [Mp.muAt] at mu'
          cases q1 : Mp.ixL xs.length i0 with
          | none => rw [q1] at mu'; cases mu'
          | some j =>
            rw [q1] at mu'
            simp only at mu'
            cases q2 : xs[j]? with
            | none => rw [q2] at mu'; cases mu'
            | some x =>
              rw [q2] at mu'
              simp only at mu'
              cases q3 : Mp.muAt m args ps x with
              | ok y => rw [q3] at mu'; cases mu'; exact ⟨_, rfl⟩
              | exc _ => rw [q3] at mu'; cases mu'
              | bad => rw [q3] at mu'; cases mu'
      obtain ⟨ys, rfl⟩ := hd'
      rcases b.al k i _ hk hm rfl with h | h | ⟨j, p, us, u, xs, h1, h2, hx, h3, h4, h5⟩
      · exact .inl (by rw [List.getElem?_set_ne (Ne.symm hki)]; exact h)
      · exfalso
        have : d = .un ∨ True := .inr True.intro
        rcases b.slot i _ _ _ hm h hv with ⟨_, q⟩ | ⟨w, e, q⟩
        · have p0 := fo.path
          cases ps with
          | nil => exact z rfl
          | cons q0 ps =>
            cases q0 <;> first | exact p0.elim | skip
            obtain ⟨p1, us1, u1, e1, e2, _⟩ := p0
            obtain ⟨ys', A', mu2, ow2, _⟩ := fo.back m args d1 Fz' H' A1 hs kp (fun a _ hn => ho a hn) ow mu n1 fun a h1 h2 => by
              rcases hA a h1 with z | ⟨_, _, z⟩
              · exact z
              · exact absurd h2 (z i)
            subst e1
            have e3 := fo.root
            rw [q] at e3
            exact (List.not_mem_nil (e3 (by simp) p1 rfl))
        · cases K with
          | zero => exact (show False by have := q.1; simp only [Val] at this).elim
          | succ K => exact (show False by have := q.1; simp only [Val] at this).elim
      · refine .inr (.inr ⟨j, p, us, u, ys, ?_, h2, ?_, h3, ?_, h5⟩)
        · rw [List.getElem?_set_ne (Ne.symm hki)]; exact h1
        · rw [List.getElem?_set_self hlt]
        · rw [hv] at h3
          cases h3
          exact ho p (fo.top z p rfl) _ h4
theorem s_app {o : Expr} {i K n : Nat} {path : List Mp.E} {apos cpos : Pos} (hx : okL L G = true) (hK : X.K = C.K) (hm : G[i]? = some (.ow K)) (hn : n = path.length) (hlt : n < K) (hna : noAl G i = true ∨ path ≠ []) (hp : Plc X C G sf W o i path) (hb0 : noCall0 o = true) (hl : (apos.endLine == cpos.line) = true) (hns : NoSt a) (ha : PE X a (tE C G sf W (.ow (K - n - 1)) a'))
    (hsw : swapsWith (.Call (.Attribute o "append" apos) [a] [] cpos) none pos.line X.env = pure false) : PS X (.Expr (.Call (.Attribute o "append" apos) [a] [] cpos) pos) (tSt C sf W rt L G G (.app i path a')) := by
  have pe := pe_bm (X := X) PySem.F.plainAttrs_list PySem.F.slot_list_append type_list_append (mt_append) (plc_pe hK hp) (pa_cons ha pa_nil (hns [] X.env)) (noCall0_base hb0) (nost_few (by simpa using hns) (by simp)) hl (hns [] X.env) rfl
  refine PS.imp (ps_expr pe hsw) fun D σ H ⟨F0, Fz, Hr, env, As, b, w⟩ => ?_
  have w : OutW C W D F0 Hr rt L G Fz H ((Mp.getE env i).toO env fun d => (Mp.evs path sf env).toOl env fun ps => match Mp.locD ps d with
    | some (.lst _) => (Mp.ev a' sf env).toO env fun y => (Mp.muAt .app [y] ps d).toO env fun d' => .nx (env.set i d')
    | _ => .bad) := w
  cases hd : Mp.getE env i with
  | bad => rw [hd] at w; exact (show False from w).elim
  | exc z => exact absurd hd getE_exc
  | ok d =>
    rw [hd] at w
    obtain ⟨he, hun⟩ := getE_ok hd
    obtain ⟨v, hv, _⟩ := b.look hm he hun
    refine ⟨F0, Fz, Hr, env, As, v, b, hv, ?_⟩
    refine (OutW.toOl hx b w).imp fun ps eps w1 H1 Fz1 e1 => ?_
    have b1 := b.grow e1
    replace w1 := OutW.mono (.of e1) w1
    have hpl : ps.length = n := by rw [evs_len eps, hn]
    cases hloc : Mp.locD ps d with
    | none => rw [hloc] at w1; exact (show False from w1).elim
    | some d0 =>
      rw [hloc] at w1
      cases d0 with
      | lst ys =>
        obtain ⟨v0, A0, fo⟩ := b1.focus hm he hun hv hloc (by omega)
        obtain ⟨k0, hk0⟩ : ∃ k0, K - ps.length = k0 + 1 := ⟨K - ps.length - 1, by omega⟩
        have ow0 := fo.ow
        rw [hk0] at ow0
        obtain ⟨p0, us0, B0, rfl, hp0, rfl, l0⟩ := ow0
        refine ⟨.ref p0, fo.path, .inl ⟨rfl, us0, SqL.of hp0⟩, F0, Fz1, Hr, env, As, b1, ?_⟩
        refine (OutW.toO hx b1 w1).imp fun y _ w2 u H2 Fz2 B e2 r2 n2 f2 => ?_
        have b2 := b1.grow e2
        replace w2 := OutW.mono (.of e2) w2
        have ek : K - n - 1 = k0 := by omega
        rw [ek] at r2
        have r2 : Ow C Fz2 H2 k0 y u B := r2
        obtain ⟨v0', A0', fo2⟩ := b2.focus hm he hun hv hloc (by omega)
        have ev0 : v0' = .ref p0 := fo2.path.uniq (VPath.same e2.same fo.path)
        subst ev0
        have ow2 := fo2.ow
        rw [hk0] at ow2
        obtain ⟨p0', us2, B2, ep, hp2, rfl, l2⟩ := ow2
        cases ep
        -- the list's length
        have hlen : ys.length < Mp.LIM ∨ ¬ ys.length < Mp.LIM := Nat.lt_or_ge _ _ |>.imp id fun h => by omega
        rcases hlen with hlen | hlen
        · have mu : Mp.muD .app [y] (.lst ys) = .ok (.lst (ys ++ [y])) := by simp only [Mp.muD, if_pos hlen]
          have nF : ¬ Fz2 p0 := (b2.own i p0 (fo2.sub p0 List.mem_cons_self)).1
          have kp : Keep Fz2 H2 (upd H2 p0 (.lst (us2 ++ [u]))) := keep_upd hp2 True.intro nF
          have ne : ∀ a, a ≠ p0 → ∀ o, H2 a = some o → upd H2 p0 (.lst (us2 ++ [u])) a = some o := fun a hn o h => by rw [upd_ne hn]; exact h
          obtain ⟨np, nB2⟩ := List.nodup_cons.mp fo2.nd
          have Bn : ∀ a ∈ B, a ≠ p0 := fun a ha z => by subst z; rw [(f2 a ha).1] at hp0; cases hp0
          have ow1 : Ow C Fz2 (upd H2 p0 (.lst (us2 ++ [u]))) (k0 + 1) (.lst (ys ++ [y])) (.ref p0) (p0 :: (B2 ++ B)) :=
            ⟨p0, us2 ++ [u], B2 ++ B, rfl, upd_same, rfl, owl_app (l2.imp fun d w C' hC h => Ow.keep (fun _ h => h) kp k0 d w C' (fun a ha => ne a fun z => np (z ▸ hC a ha)) h) (Ow.keep (fun _ h => h) kp k0 y u B (fun a ha => ne a (Bn a ha)) r2)⟩
          have BA : ∀ a ∈ B, ∀ j, a ∉ As j := fun a ha j hj => by
            obtain ⟨o, ho, _⟩ := b1.mut j a hj
            rw [(f2 a ha).1] at ho; cases ho
          obtain ⟨d', As', mua, b3⟩ := b2.done (args := [y]) (Fz' := Fz2) hm hv (by rw [hk0] at fo2; exact fo2) (fun _ h => h) kp (fun a hn o h => ne a (fun z => hn (by rw [z]; exact List.mem_cons_self)) o h) (fun a h => by
            obtain ⟨o, e⟩ := b2.ext.trk a h
            by_cases z : a = p0
            · rw [z]; exact ⟨_, upd_same⟩
            · exact ⟨o, ne a z o e⟩) ow1 mu (List.nodup_cons.mpr ⟨fun z => by
              rcases List.mem_append.mp z with z | z
              · exact np z
              · exact Bn p0 z rfl, nodup_app nB2 n2 fun a h1 h2 => BA a h2 i (fo2.sub a (List.mem_cons_of_mem _ h1))⟩) (fun a ha => by
            rcases List.mem_cons.mp ha with rfl | ha
            · exact .inl List.mem_cons_self
            · rcases List.mem_append.mp ha with ha | ha
              · exact .inl (List.mem_cons_of_mem _ ha)
              · exact .inr ⟨b1.ext.same.free (f2 a ha).1, (f2 a ha).2, BA a ha⟩) (fun a h => .inl h) (hna.imp id fun z e => z (List.length_eq_zero_iff.mp (by rw [← hn, ← hpl, e]; rfl)))
          rw [mua] at w2
          refine ⟨p0, us2, u, rfl, rfl, hp2, ?_, ?_⟩
          · rw [sz, ← l2.length]; exact hlen
          · exact w2 σ _ Fz2 As' ⟨fun _ h => h, kp⟩ b3
        · exfalso
          have key : ∀ (ps : List Mp.D) (d : Mp.D), Mp.locD ps d = some (.lst ys) → Mp.muAt .app [y] ps d = .bad := by
            intro ps
            induction ps with
            | nil => intro d h; cases h; simp only [Mp.muAt, Mp.muD, if_neg hlen]
            | cons q ps ih =>
              intro d h
              cases q <;> first | (simp [Mp.locD] at h; done) | skip
              cases d <;> first | (simp [Mp.locD] at h; done) | skip
              rename_i i0 xs
              simp only [Mp.locD] at h
              simp only [Mp.muAt]
              cases h1 : Mp.ixL xs.length i0 with
              | none => rfl
              | some j =>
                rw [h1] at h
                simp only at h ⊢
                cases h2 : xs[j]? with
                | none => rfl
                | some x =>
                  rw [h2] at h
                  simp only at h ⊢
                  rw [ih x h]; rfl
          rw [key ps d hloc] at w2
          exact w2
      | _ => exact (show False from w1).elim
end
end MpS

/-! MpSt5: item assignment, fields, several names. -/
namespace MpS
open PySem PySem.Spec PyProof.Rows L2

section
variable {C : Cfg} {G G' G1 G2 G3 : List Md} {F0 Fz Fz' Fz1 Fz2 : Addr → Prop} {Hr H H' H1 H2 : Hp} {env env' : List Mp.D} {σ : L2.St} {As : Nat → List Addr} {E : XK} {kd ka : Kd} {Q : VK} {sf : Mp.Sf} {W : WX}
variable {X : Cx} {a b c tg : Expr} {a' b' c' e' : Mp.E} {pos : Pos} {D : Ends} {rt : Nat} {L : Lx}
theorem s_sets {is : List Nat} (hx : okL L G = true) (hK : X.K = C.K) (hi : ∀ i ∈ is, i < G.length) (na : noAls is G = true) (ha : PE X a (tE C G sf W (.rd 0) a')) (hg : PG X tg (gT X.K is)) (hs : swapsWithSole [tg] a pos.line X.env = pure false) (hw : swappedStores [tg] a X.env = pure none)
    (h1 : (assignEach [tg] X.env).map (·.2) = [assign tg X.env]) : PS X (.Assign [tg] a pos) (tSt C sf W rt L G (setFr is G) (.sets is a')) := by
  refine PS.imp (ps_asg ha hg hs hw h1) fun D σ H ⟨F0, Fz, Hr, env, As, b, w⟩ => ⟨F0, Fz, Hr, env, As, b, ?_⟩
  refine (OutW.toO hx b w).imp fun d _ q v H1 Fz1 A e r n f => ?_
  cases hset : Mp.setTg is d env with
  | none => rw [hset] at q; exact (show False from q).elim
  | some env1 =>
    rw [hset] at q
    exact gT_ok hK hset (b.grow e) r.1 (fun i h => by rw [← b.l1]; exact hi i h) na fun σ2 As2 b2 _ => q σ2 H1 Fz1 As2 (.of e) b2

/-! ### fields -/
theorem fput_len {α : Type} : ∀ {fs : List Nat} {us : List α} {i : Nat} {y : α}, us.length = fs.length → (Mp.fputV fs us i y).length = (Mp.fputF fs i).length
  | [], [], _, _, _ => rfl
  | [], _ :: _, _, _, h => by simp at h
  | _ :: _, [], _, _, h => by simp at h
  | f :: fs, u :: us, i, y, h => by
    unfold Mp.fputV Mp.fputF
    split
    · simpa using h
    · simpa using fput_len (fs := fs) (us := us) (by simpa using h)
theorem fget_put {α : Type} : ∀ {fs : List Nat} {us : List α} {i g : Nat} {y : α}, us.length = fs.length → Mp.fget (Mp.fputF fs i) (Mp.fputV fs us i y) g = if g = i then some y else Mp.fget fs us g
  | [], [], i, g, y, _ => by
    simp only [Mp.fputF, Mp.fputV, Mp.fget]
    by_cases e : i = g
    · rw [if_pos e, if_pos e.symm]
    · rw [if_neg e, if_neg (Ne.symm e)]
  | [], _ :: _, _, _, _, h => by simp at h
  | _ :: _, [], _, _, _, h => by simp at h
  | f :: fs, u :: us, i, g, y, h => by
    have ih := fget_put (fs := fs) (us := us) (i := i) (g := g) (y := y) (by simpa using h)
    unfold Mp.fputF Mp.fputV
    by_cases e : f = i
    · rw [if_pos e, if_pos e]
      simp only [Mp.fget]
      by_cases e2 : f = g
      · rw [if_pos e2, if_pos (by omega)]
      · rw [if_neg e2, if_neg e2, if_neg (by omega)]
    · rw [if_neg e, if_neg e]
      simp only [Mp.fget]
      by_cases e2 : f = g
      · rw [if_pos e2, if_pos e2, if_neg (by omega)]
      · rw [if_neg e2, if_neg e2, ih]
theorem fput_ge (fs : List Nat) (i : Nat) : fs.length ≤ (Mp.fputF fs i).length ∧ (∀ {α : Type} (us : List α), Mp.fget fs us i = none → us.length = fs.length → (Mp.fputF fs i).length = fs.length + 1) := by
  induction fs with
  | nil => exact ⟨by simp [Mp.fputF], fun us _ _ => by simp [Mp.fputF]⟩
  | cons f fs ih =>
    unfold Mp.fputF
    split
    · rename_i e
      refine ⟨Nat.le_refl _, fun us h hl => ?_⟩
      cases us with
      | nil => simp at hl
      | cons u us => simp [Mp.fget, e] at h
    · rename_i e
      refine ⟨by simpa using ih.1, fun us h hl => ?_⟩
      cases us with
      | nil => simp at hl
      | cons u us =>
        simp only [Mp.fget, if_neg e] at h
        simpa using ih.2 us h (by simpa using hl)
theorem putF_same {f : Str} {y w : V} : ∀ {fs : List (Str × V)}, fs.lookup f = some w → (putF f y fs).length = fs.length
  | [], h => by simp at h
  | (g, x) :: r, h => by
    unfold putF
    split
    · rfl
    · rename_i e
      rw [List.lookup_cons] at h
      have : (f == g) = false := beq_eq_false_iff_ne.mpr fun z => e z.symm
      rw [this] at h
      simpa using putF_same (y := y) h
theorem FsOk.put {c i : Nat} {f : Str} {fs : List Nat} {us : List V} {fs' : List (Str × V)} {y : V} (nd : C.FN.Nodup) (hf : C.FN[i]? = some f) (h : FsOk C c fs us fs') : FsOk C c (Mp.fputF fs i) (Mp.fputV fs us i y) (putF f y fs') where
  cl := h.cl
  len := fput_len h.len
  le := by
    have hl := h.at_ i f hf
    cases q : Mp.fget fs us i with
    | none =>
      rw [(fput_ge fs i).2 us q h.len]
      have := length_putF f y fs'
      have := h.le
      omega
    | some w =>
      rw [q] at hl
      rw [putF_same hl]
      exact Nat.le_trans h.le (fput_ge fs i).1
  at_ := fun g x hx => by
    rw [lookup_putF, fget_put h.len]
    by_cases e : g = i
    · subst e
      rw [hf] at hx
      cases hx
      rw [if_pos rfl, if_pos rfl]
    · rw [if_neg e]
      rw [if_neg (fun z => by
        subst z
        obtain ⟨h1, h2⟩ := List.getElem?_eq_some_iff.mp hx
        obtain ⟨h3, h4⟩ := List.getElem?_eq_some_iff.mp hf
        exact e ((List.getElem_inj nd).mp (h2.trans h4.symm)))]
      exact h.at_ g x hx
  no := fun x hx => by
    rw [lookup_putF, if_neg (fun z => by subst z; exact hx (List.mem_of_getElem? hf))]
    exact h.no x hx
theorem fputV_val {P : Mp.D → V → Prop} {i : Nat} {y : Mp.D} {u : V} (hy : P y u) : ∀ {fs : List Nat} {vs : List Mp.D} {us : List V}, Paired P vs us → Paired P (Mp.fputV fs vs i y) (Mp.fputV fs us i u)
  | [], _, _, .nil => .cons hy .nil
  | [], _, _, .cons _ _ => .cons hy .nil
  | _ :: _, _, _, .nil => .cons hy .nil
  | f :: fs, _, _, .cons h1 h2 => by
    unfold Mp.fputV
    split
    · exact .cons hy h2
    · exact .cons h1 (fputV_val hy h2)
theorem s_setF {x f : Str} {i : Nat} {p p2 : Pos} (hx : okL L G = true) (hK : X.K = C.K) (fnd : C.FN.Nodup) (hf : C.FN[i]? = some f) (hc : ∀ c, c < C.nc → ClsF C c) (hN : X.N[0]? = some x) (hv : Vis X.env.scope x) (hd : (x == ("__debug__" : Str)) = false) (hcd : (x == ("__classdict__" : Str)) = false) (hm : G[0]? = some .sf) (na : noAl G 0 = true)
    (ha : PE X a (tE C G sf W (.rd 0) a')) (hs : swapsWith a (some (.Attribute (.Name x p) f p2)) pos.line X.env = pure false) : PS X (.Assign [.Attribute (.Name x p) f p2] a pos) (tSt C sf W rt L G G (.setF i a')) := by
  refine PS.imp (ps_fld (pe_var hN hv hd hcd) ha hs) fun D σ H ⟨F0, Fz, Hr, env, As, b, w⟩ => ⟨F0, Fz, Hr, env, As, b, ?_⟩
  refine (OutW.toO hx b w).imp fun y _ q u H1 Fz1 A e r n f' => ?_
  have b1 := b.grow e
  replace q := OutW.mono (.of e) q
  cases h0 : env[0]? with
  | none => rw [h0] at q; exact (show False from q).elim
  | some d =>
    rw [h0] at q
    cases d with
    | ins c fs vs =>
      have q : OutW C W D F0 Hr rt L G Fz1 H1 (if fs.length < 900 then .nx (env.set 0 (.ins c (Mp.fputF fs i) (Mp.fputV fs vs i y))) else .bad) := q
      split at q
      · rename_i hl
        obtain ⟨v, hv0, hpin, ow⟩ := b1.look hm h0 (by simp)
        obtain ⟨p0, dx, fs', us, rfl, hp, hF, hA, l⟩ := (show Ow C Fz1 H1 1 (.ins c fs vs) v (As 0) from ow)
        refine ⟨.ref p0, hv0, p0, C.cad c, dx, fs', rfl, hp, by rw [hK]; exact (hc c hF.cl).cls, by rw [hK]; exact (hc c hF.cl).no f (List.mem_of_getElem? hf), by have := hF.le; omega, ?_⟩
        have nF : ¬ Fz1 p0 := (b1.own 0 p0 (by rw [hA]; exact List.mem_cons_self)).1
        have kp : Keep Fz1 H1 (upd H1 p0 (.ins (C.cad c) dx (putF f u fs'))) := keep_upd hp True.intro nF
        have ne : ∀ a, a ≠ p0 → ∀ o, H1 a = some o → upd H1 p0 (.ins (C.cad c) dx (putF f u fs')) a = some o := fun a hn o h => by rw [upd_ne hn]; exact h
        have ow' : Ow C Fz1 (upd H1 p0 (.ins (C.cad c) dx (putF f u fs'))) 1 (.ins c (Mp.fputF fs i) (Mp.fputV fs vs i y)) (.ref p0) [p0] :=
          ⟨p0, dx, _, _, rfl, upd_same, hF.put fnd hf, rfl, valL_iff.mpr (fputV_val (Val.keep (fun _ h => h) kp y u r.1) (pimp (pvals l) fun d v h => Val.keep (fun _ h => h) kp d v h))⟩
        refine q σ _ Fz1 _ ⟨fun _ h => h, kp⟩ (b1.write (i := 0) hm hv0 (fun _ h => h) kp (fun j a hj ha => ne a fun z => ?_) (fun a o h => ne a (fun z => ?_) o (b1.ext.same a o h)) (fun a h => ?_) (.inr ⟨_, rfl, hpin, ow'⟩) (by simp) (fun a ha => .inl (by rw [hA]; exact ha)) (fun a h => .inl h) rfl fun k hk => absurd hk (noAl_at na))
        · subst z
          exact hj (b1.dj j 0 a ha (by rw [hA]; exact List.mem_cons_self))
        · subst z
          have := (b1.own 0 a (by rw [hA]; exact List.mem_cons_self)).2
          rw [this] at h; cases h
        · obtain ⟨o, e⟩ := b1.ext.trk a h
          by_cases z : a = p0
          · rw [z]; exact ⟨_, upd_same⟩
          · exact ⟨o, ne a z o e⟩
      · exact (show False from q).elim
    | _ => exact (show False from q).elim

/-! ### item assignment -/
def rSetD : V → V → V → Hp → (Hp → Prop) → Prop := fun o i v H Q => ∃ a H', o = .ref a ∧ DPut H a i v H' ∧ Q H'
theorem set_dict (hu : X.A.units + 1 < cLine) : PSet X rSetD := by
  intro pins s σ H o i v ov iv u Q I ro ri rv h
  obtain ⟨a, H', rfl, g, q⟩ := h
  obtain rfl : ov = Value.ref a := ro
  exact d_setItem hu I g ri rv fun s' I' => ⟨H', I', q⟩
theorem pset_or {t t' : TSet} (h : PSet X t) (h' : PSet X t') : PSet X (fun o i v H Q => t o i v H Q ∨ t' o i v H Q) := by
  intro pins s σ H o i v ov iv u Q I ro ri rv q
  rcases q with q | q
  · exact h pins s σ H o i v ov iv u Q I ro ri rv q
  · exact h' pins s σ H o i v ov iv u Q I ro ri rv q
theorem s_put {o k : Expr} {k' : Mp.E} {i K n : Nat} {path : List Mp.E} {p2 : Pos} {kb : Bool} (hkb : Mp.isTupE k' = true → kb = true) (hx : okL L G = true) (hK : X.K = C.K) (hu : X.A.units + 1 < cLine) (hm : G[i]? = some (.ow K)) (hn : n = path.length) (hlt : n < K) (hna : noAl G i = true ∨ path ≠ []) (hp : Plc X C G sf W o i path) (hk : PE X k (tKy C G sf W kb k')) (ha : PE X a (tE C G sf W (.ow (K - n - 1)) a'))
    (hasg : ∀ (o : Expr) (p : Pos) (env : Env) (v : Value), assign (.Subscript o k p) env v = (do
      let ov ← holding [v] (eval o env)
      let iv ← holding [v, ov] (eval k env)
      standAt p
      holding [v, ov, iv] (setItem ov iv v)
      release [v, ov, iv] []))
    (hs : swapsWithSole [.Subscript o k p2] a pos.line X.env = pure false) (hw : swappedStores [.Subscript o k p2] a X.env = pure none) : PS X (.Assign [.Subscript o k p2] a pos) (tSt C sf W rt L G G (.put i path k' a')) := by
  refine PS.imp (ps_asg ha (pg_sub (plc_pe hK hp) hk (pset_or set_list (set_dict hu)) (hasg o p2 X.env)) hs hw (by rfl)) fun D σ H ⟨F0, Fz, Hr, env, As, b, w⟩ => ⟨F0, Fz, Hr, env, As, b, ?_⟩
  refine (OutW.toO hx b w).imp fun y _ w u H1 Fz1 B e1 rB nB fB => ?_
  have b1 := b.grow e1
  replace w := OutW.mono (.of e1) w
  have w : OutW C W D F0 Hr rt L G Fz1 H1 ((Mp.getE env i).toO env fun d => (Mp.evs path sf env).toOl env fun ps => match Mp.locD ps d with
    | some t => (Mp.ev k' sf env).toO env fun kk => if Mp.putOk k' t then (Mp.muAt .put [kk, y] ps d).toO env fun d' => .nx (env.set i d') else .bad
    | none => .bad) := w
  cases hd : Mp.getE env i with
  | bad => rw [hd] at w; exact (show False from w).elim
  | exc z => exact absurd hd getE_exc
  | ok d =>
    rw [hd] at w
    obtain ⟨he, hun⟩ := getE_ok hd
    obtain ⟨v, hv, _⟩ := b1.look hm he hun
    refine ⟨F0, Fz1, Hr, env, As, v, b1, hv, ?_⟩
    refine (OutW.toOl hx b1 w).imp fun ps eps w1 H2 Fz2 e2 => ?_
    have hna' : noAl G i = true ∨ ps ≠ [] := hna.imp id fun z e => z (List.length_eq_zero_iff.mp (by rw [← evs_len eps, e]; rfl))
    have b2 := b1.grow e2
    replace w1 := OutW.mono (.of e2) w1
    have hpl : ps.length = n := by rw [evs_len eps, hn]
    cases hloc : Mp.locD ps d with
    | none => rw [hloc] at w1; exact (show False from w1).elim
    | some d0 =>
      rw [hloc] at w1
      obtain ⟨v0, A0, fo⟩ := b2.focus hm he hun hv hloc (by omega)
      obtain ⟨k0, hk0⟩ : ∃ k0, K - ps.length = k0 + 1 := ⟨K - ps.length - 1, by omega⟩
      refine ⟨v0, fo.path, F0, Fz2, Hr, env, As, b2, ?_⟩
      refine (OutW.toO hx b2 w1).imp fun kk _ w2 kv H3 Fz3 e3 r3 => ?_
      obtain ⟨hpo, w2n⟩ : Mp.putOk k' d0 = true ∧ OutW C W D F0 Hr rt L G Fz2 H2 ((Mp.muAt .put [kk, y] ps d).toO env fun d' => .nx (env.set i d')) := by
        split at w2
        · rename_i hp
          exact ⟨hp, w2⟩
        · exact (show False from w2).elim
      clear w2
      have b3 := b2.grow e3
      have w2 := OutW.mono (.of e3) w2n
      clear w2n
      obtain ⟨v0', A0', fo3⟩ := b3.focus hm he hun hv hloc (by omega)
      obtain rfl : v0' = v0 := fo3.path.uniq (VPath.same e3.same fo.path)
      rw [hk0] at fo3
      have ow3 := fo3.ow
      have ek : K - n - 1 = k0 := by omega
      rw [ek] at rB
      have rB' : Ow C Fz3 H3 k0 y u B := Rs.grow (kd := .ow k0) (e2.trans e3) rB
      have e13 := e2.trans e3
      have muB : ∀ a ∈ B, ∃ o, H1 a = some o := Rs.mut rB
      have nFB : ∀ a ∈ B, ¬ Fz3 a := fun a ha z => by
        rcases e13.new a z with z | z
        · exact (fB a ha).2 z
        · obtain ⟨o, ho⟩ := muB a ha
          rw [z] at ho; cases ho
      have hrB : ∀ a ∈ B, Hr a = none := fun a ha => b.ext.same.free (fB a ha).1
      have BA : ∀ a ∈ B, ∀ j, a ∉ As j := fun a ha j hj => by
        obtain ⟨o, ho, _⟩ := b.mut j a hj
        rw [(fB a ha).1] at ho; cases ho
      have badAt : Mp.muD .put [kk, y] d0 = .bad → False := fun hb => by
        have key : ∀ (ps : List Mp.D) (d : Mp.D), Mp.locD ps d = some d0 → Mp.muAt .put [kk, y] ps d = .bad := by
          intro ps
          induction ps with
          | nil => intro d h; cases h; simp only [Mp.muAt, hb]
          | cons q ps ih =>
            intro d h
            cases q <;> first | (simp [Mp.locD] at h; done) | skip
            cases d <;> first | (simp [Mp.locD] at h; done) | skip
            rename_i i0 xs
            simp only [Mp.locD] at h
            simp only [Mp.muAt]
            cases h1 : Mp.ixL xs.length i0 with
            | none => rfl
            | some j =>
              rw [h1] at h
              simp only at h ⊢
              cases h2 : xs[j]? with
              | none => rfl
              | some x =>
                rw [h2] at h
                simp only at h ⊢
                rw [ih x h]; rfl
        rw [key ps d hloc] at w2
        exact w2
      cases d0 with
      | lst ys =>
        obtain ⟨p0, us, B0, rfl, hp0, hA0, l0⟩ := ow3
        subst hA0
        cases kk with
        | int j0 =>
          obtain rfl : kv = .int j0 := by
            cases kb with
            | true =>
              obtain ⟨_, _, _, z, _⟩ := r3
              cases z
            | false =>
              obtain ⟨_, z⟩ := r3
              exact z.int
          cases hj : Mp.ixL ys.length j0 with
          | none => exact (badAt (by simp only [Mp.muD, hj])).elim
          | some j =>
            have mu : Mp.muD .put [.int j0, y] (.lst ys) = .ok (.lst (ys.set j y)) := by simp only [Mp.muD, hj]
            have hjl := ixL_lt hj
            have nF : ¬ Fz3 p0 := (b3.own i p0 (fo3.sub p0 List.mem_cons_self)).1
            have kp : Keep Fz3 H3 (upd H3 p0 (.lst (us.set j u))) := keep_upd hp0 True.intro nF
            have ne : ∀ a, a ≠ p0 → ∀ o, H3 a = some o → upd H3 p0 (.lst (us.set j u)) a = some o := fun a hn o h => by rw [upd_ne hn]; exact h
            obtain ⟨np, nB0⟩ := List.nodup_cons.mp fo3.nd
            have Bn : ∀ a ∈ B, a ≠ p0 := fun a ha z => by
              subst z
              exact BA a ha i (fo3.sub a List.mem_cons_self)
            obtain ⟨x0, hx0⟩ : ∃ x0, ys[j]? = some x0 := ⟨ys[j], by simp [hjl]⟩
            obtain ⟨u0, B1, Bj, B2, eu, rfl, ow0, re⟩ := owl_at l0 hx0
            obtain ⟨m1, m2, m3⟩ := List.nodup_append.mp nB0
            obtain ⟨m4, m5, m6⟩ := List.nodup_append.mp m2
            have l1 := re y u Fz3 (upd H3 p0 (.lst (us.set j u))) B (fun _ h => h) kp (fun a ha _ => ne a fun z => np (z ▸ ha)) nB0 (Ow.keep (fun _ h => h) kp k0 y u B (fun a ha => ne a (Bn a ha)) rB')
            have ow1 : Ow C Fz3 (upd H3 p0 (.lst (us.set j u))) (k0 + 1) (.lst (ys.set j y)) (.ref p0) (p0 :: (B1 ++ (B ++ B2))) := ⟨p0, _, _, rfl, upd_same, rfl, l1⟩
            have BAs : ∀ a ∈ B, a ∉ p0 :: (B1 ++ (Bj ++ B2)) := fun a ha z => BA a ha i (fo3.sub a z)
            obtain ⟨d', As', mua, b4⟩ := b3.done (args := [.int j0, y]) (Fz' := Fz3) hm hv fo3 (fun _ h => h) kp (fun a hn o h => ne a (fun z => hn (by rw [z]; exact List.mem_cons_self)) o h) (fun a h => by
              obtain ⟨o, e⟩ := b3.ext.trk a h
              by_cases z : a = p0
              · rw [z]; exact ⟨_, upd_same⟩
              · exact ⟨o, ne a z o e⟩) ow1 mu (List.nodup_cons.mpr ⟨fun z => by
                rcases List.mem_append.mp z with z | z
                · exact np (List.mem_append_left _ z)
                · rcases List.mem_append.mp z with z | z
                  · exact Bn p0 z rfl
                  · exact np (List.mem_append_right _ (List.mem_append_right _ z)), nodup_app m1 (nodup_app nB m5 fun a h1 h2 => BAs a h1 (List.mem_cons_of_mem _ (List.mem_append_right _ (List.mem_append_right _ h2)))) fun a h1 h2 => by
                rcases List.mem_append.mp h2 with h2 | h2
                · exact BAs a h2 (List.mem_cons_of_mem _ (List.mem_append_left _ h1))
                · exact m3 a h1 a (List.mem_append_right _ h2) rfl⟩) (fun a ha => by
              rcases List.mem_cons.mp ha with rfl | ha
              · exact .inl List.mem_cons_self
              · rcases List.mem_append.mp ha with ha | ha
                · exact .inl (List.mem_cons_of_mem _ (List.mem_append_left _ ha))
                · rcases List.mem_append.mp ha with ha | ha
                  · exact .inr ⟨hrB a ha, nFB a ha, BA a ha⟩
                  · exact .inl (List.mem_cons_of_mem _ (List.mem_append_right _ (List.mem_append_right _ ha)))) (fun a h => .inl h) hna'
            rw [mua] at w2
            refine .inl ⟨p0, us, j0, j, rfl, rfl, hp0, ?_, w2 σ _ Fz3 As' ⟨fun _ h => h, kp⟩ b4⟩
            have : ixN us.length j0 = Mp.ixL ys.length j0 := by rw [l0.length]; rfl
            rw [this]
            exact hj
        | _ => exact (badAt (by simp only [Mp.muD])).elim
      | dct tk ks vs =>
        obtain ⟨p0, us, rfl, hdA, rfl, l0⟩ := ow3
        have hc : (Mp.keyD tk kk = true ∧ ks.length < Mp.LIM) ∨ ¬ (Mp.keyD tk kk = true ∧ ks.length < Mp.LIM) := Classical.em _
        rcases hc with ⟨hkd, hlen⟩ | hc
        · have mu : Mp.muD .put [kk, y] (.dct tk ks vs) = .ok (.dct tk (Mp.dputK ks kk) (Mp.dputV ks vs kk y)) := by simp only [Mp.muD, hkd, decide_eq_true hlen, Bool.and_self, if_true]
          have nF : ¬ Fz3 p0 := (b3.own i p0 (fo3.sub p0 (by simp))).1
          -- the value is frozen
          let Fz4 : Addr → Prop := fun a => Fz3 a ∨ a ∈ B
          have s34 : ∀ a, Fz3 a → Fz4 a := fun a h => .inl h
          have vy : Val C Fz4 H3 y u := Ow.freeze s34 k0 y u B (fun a ha => .inr ha) rB'
          have l0' : ValL C Fz4 H3 vs us := ValL.keep s34 (.of (Same.refl H3)) _ _ l0
          have r3' : KyV kb C Fz4 H3 kk kv := by
            cases kb with
            | true =>
              obtain ⟨ds, p, us, z1, z2, z3, z4⟩ := r3
              exact ⟨ds, p, us, z1, z2, z3, ValL.keep s34 (.of (Same.refl H3)) _ _ z4⟩
            | false =>
              obtain ⟨j, z⟩ := r3
              exact ⟨j, Rd.same (Same.refl H3) s34 j kk kv z⟩
          obtain ⟨o, us', hput, hmu, hd', lv, hll⟩ := dct_put hdA l0' hkd (fun z => hkb (by subst z; exact hpo)) r3' vy hlen
          have nF4 : ¬ Fz4 p0 := fun z => by
            rcases z with z | z
            · exact nF z
            · exact BA p0 z i (fo3.sub p0 (by simp))
          obtain ⟨o0, ho0, hm0⟩ := hdA.some
          have kp4 : Keep Fz4 H3 (upd H3 p0 o) := keep_upd ho0 hm0 nF4
          have kp3 : Keep Fz3 H3 (upd H3 p0 o) := keep_upd ho0 hm0 nF
          have ne : ∀ a, a ≠ p0 → ∀ o', H3 a = some o' → upd H3 p0 o a = some o' := fun a hn o' h => by rw [upd_ne hn]; exact h
          have ow1 : Ow C Fz4 (upd H3 p0 o) (k0 + 1) (.dct tk (Mp.dputK ks kk) (Mp.dputV ks vs kk y)) (.ref p0) [p0] :=
            ⟨p0, us', rfl, hd', rfl, valL_iff.mpr (pimp lv fun d w h => Val.keep (fun _ h => h) kp4 d w h)⟩
          obtain ⟨d', As', mua, b4⟩ := b3.done (args := [kk, y]) (Fz' := Fz4) hm hv fo3 s34 kp3 (fun a hn o' h => ne a (fun z => hn (by rw [z]; simp)) o' h) (fun a h => by
            have : ∃ o', H3 a = some o' := by
              rcases h with h | h
              · exact b3.ext.trk a h
              · obtain ⟨o', e⟩ := muB a h
                exact ⟨o', e13.same a o' e⟩
            obtain ⟨o', e⟩ := this
            by_cases z : a = p0
            · rw [z]; exact ⟨_, upd_same⟩
            · exact ⟨o', ne a z o' e⟩) ow1 mu (by simp) (fun a ha => .inl ha) (fun a h => by
            rcases h with h | h
            · exact .inl h
            · refine .inr ⟨hrB a h, BA a h, fun z => ?_⟩
              obtain rfl : a = p0 := by simpa using z
              exact BA a h i (fo3.sub a (by simp))) hna'
          rw [mua] at w2
          exact .inr ⟨p0, _, rfl, hput, w2 σ _ Fz4 As' ⟨s34, kp3⟩ b4⟩
        · refine (badAt ?_).elim
          simp only [Mp.muD]
          rw [if_neg]
          simpa using hc
      | _ => exact (badAt (by cases kk <;> simp only [Mp.muD])).elim
def aliF (env : List Mp.D) (i : Nat) (d kk : Mp.D) : Mp.O := match d, kk with
  | .lst xs, .int z => (match Mp.ixL xs.length z with
    | some j => .nx (env.set i (.int j))
    | none => .bad)
  | _, _ => .bad
/-- a name is given to an item of a list -/
theorem s_ali {x y : Str} {i k : Nat} {ke : Expr} {k' : Mp.E} {p p2 p3 : Pos} {m : Md} (hxL : okL L G = true) (hK : X.K = C.K) (hN : X.N.Nodup) (hx0 : X.N[i]? = some x) (hx : Loc X.env.scope x) (hf : X.fn x = true ∨ X.env.scope.names.lookup x = some .local)
    (hy : X.N[k]? = some y) (hv : Vis X.env.scope y) (hd : (y == ("__debug__" : Str)) = false) (hcd : (y == ("__classdict__" : Str)) = false) (hix : PlainIx ke) (hk : PE X ke (tE C G sf W (.rd 9) k'))
    (hm : G[k]? = some m) (hr : rdOk m 9 = true) (hi : i < G.length) (na : noAl G i = true) (hne : i ≠ k) (hs : swapsWith (.Subscript (.Name y p2) ke p3) (some (.Name x p)) pos.line X.env = pure false) :
    PS X (.Assign [.Name x p] (.Subscript (.Name y p2) ke p3) pos) (tSt C sf W rt L G (G.set i (.al k)) (.ali i k k')) := by
  refine PS.imp (ps_set hN hx0 hx (plc_pe hK (.at_ hy hv hd hcd hix hk)) hs hf) fun D σ H ⟨F0, Fz, Hr, env, As, b, w⟩ => ?_
  have w : OutW C W D F0 Hr rt L (G.set i (.al k)) Fz H ((Mp.getE env k).toO env fun d => (Mp.ev k' sf env).toO env fun kk => aliF env i d kk) := w
  cases h0 : Mp.getE env k with
  | bad => rw [h0] at w; exact (show False from w).elim
  | exc z => exact absurd h0 getE_exc
  | ok d =>
    rw [h0] at w
    obtain ⟨he, hun⟩ := getE_ok h0
    obtain ⟨v, hv0, _⟩ := b.look hm he hun
    refine ⟨F0, Fz, Hr, env, As, v, b, hv0, ?_⟩
    have w : OutW C W D F0 Hr rt L (G.set i (.al k)) Fz H ((Mp.ev k' sf env).toO env fun kk => aliF env i d kk) := w
    replace w := OutW.toO hxL b w
    simp only [Mp.evs]
    cases h1 : Mp.ev k' sf env with
    | bad => rw [h1] at w; exact (show False from w).elim
    | exc z => rw [h1] at w; exact w
    | ok kk =>
      rw [h1] at w
      obtain ⟨xs, rfl⟩ : ∃ xs, d = .lst xs := by cases d <;> first | exact ⟨_, rfl⟩ | exact (show False from w).elim
      obtain ⟨z, rfl⟩ : ∃ z, kk = .int z := by cases kk <;> first | exact ⟨_, rfl⟩ | exact (show False from w).elim
      have w : OutW C W D F0 Hr rt L (G.set i (.al k)) Fz H (match Mp.ixL xs.length z with
        | some j => .nx (env.set i (.int j))
        | none => .bad) := w
      cases h2 : Mp.ixL xs.length z with
      | none => rw [h2] at w; exact (show False from w).elim
      | some j =>
        rw [h2] at w
        intro H1 Fz1 e1
        have b1 := b.grow e1
        obtain ⟨v1, e2, q⟩ := b1.look hm he (by simp)
        rw [hv0] at e2
        cases e2
        have rd : Rd C Fz1 H1 9 (.lst xs) v := by
          cases m with
          | fr => exact Rd.of_val _ _ _ q
          | bw j => exact Rd.le j _ _ _ (of_decide_eq_true hr) q
          | ow j => exact Rd.le j _ _ _ (of_decide_eq_true hr) (Ow.rd j _ _ _ q)
          | sf => exact Rd.le 1 _ _ _ (of_decide_eq_true hr) (Ow.rd 1 _ _ _ q.2)
          | al b => cases hr
          | jk => cases hr
          | ex => cases hr
        obtain ⟨q0, us, rfl, hp, l⟩ := Rd.lst rd
        have hj := ixL_lt h2
        have hju : j < us.length := by rw [← l.length]; exact hj
        have hat : atI us z = some us[j] := by
          show Mp.atL us z = _
          unfold Mp.atL
          rw [← l.length, h2]
          simp [hju]
        refine ⟨us[j], ⟨q0, us, us[j], rfl, hp, hat, rfl⟩, w _ H1 Fz1 _ (.of e1) (b1.put (A := []) (by rw [← b1.l1]; exact hi) (.inr ⟨_, rfl, rfl⟩) List.nodup_nil (fun a ha => by cases ha) (fun j a _ ha => by cases ha) (fun k _ => noAl_at na) fun k2 e => ?_)⟩
        cases e
        have li : i < env.length := by rw [b.l2, ← b.l1]; exact hi
        have ls : i < σ.length := by rw [← b.l1]; exact hi
        refine .inr (.inr ⟨j, q0, us, us[j], xs, ?_, ?_, ?_, ?_, hp, by simp [hju]⟩)
        · rw [List.getElem?_set_self li]
        · rw [List.getElem?_set_self ls]
        · rw [List.getElem?_set_ne hne]; exact he
        · rw [List.getElem?_set_ne hne]; exact hv0
end
end MpS

/-! MpXc: an own exception's class: its __init__ calls its base's, tells a text of ints, and stores its arguments. -/
namespace MpS
open PySem PySem.Spec PyProof.Rows L2

/-! ### the base's __init__ -/
/-- the exceptions' base of the module, G: nothing but a class over ValueError -/
structure GeF (K : PySem.W.Frag) (mg : Str → Option Value) (x : Str) (G : Addr) : Prop where
  mg : mg x = some (.ref G)
  nd : (x == ("__debug__" : Str)) = false
  ga : PySem.W.specialIn K (.ref G) "__getattribute__" = some (some (.builtin "type.__getattribute__"))
  rd : PySem.W.readsIn K G (.type "type") = true
  fi : PySem.W.findCls K (.ref G) (.type "type") "__init__" = some (.val (.builtin "ValueError.__init__"))
section
variable {X : Cx} {G : Addr} {x : Str} {e : Expr} {es : List Expr} {ta : TA} {p1 p2 pos : Pos}
theorem pe_ginit {pl : Sem Bool} (F : GeF X.K X.mg x G) (hg : Gl X x) (ha : PA X (e :: es) ta)
    (hc : eval (.Call (.Attribute (.Name x p1) "__init__" p2) (e :: es) [] pos) X.env = (do
      let ov ← eval (.Name x p1) X.env
      standAt p2.atName
      let (f, first) ← holding [ov] (getMethod ov "__init__" pl)
      callWith pos f first (backTo pos (starEach (e :: es) X.env)) (backToKw pos (keywordEach [] X.env))))
    (he : starEach (e :: es) X.env = (false, eval e X.env) :: starEach es X.env) (hpl : (backTo pos (starEach es X.env)).any (·.1) = false) :
    PE X (.Call (.Attribute (.Name x p1) "__init__" p2) (e :: es) [] pos) (tVeI X.K ta) := by
  refine ⟨fun pins s σ H Q I h => PySem.W.methodCall_KW (ld_glob I hg F.mg ?_ F.nd) hc⟩
  refine PySem.W.method_cls I.kIn F.ga (PySem.W.cls_value I.kIn F.rd F.fi (by decide +kernel) ?_)
  refine PyProof.Rows.callWith_method1 (thn (ha.run pos pins _ σ H _ (I.tok _) h) fun us s1 q1 => ?_) he hpl
  obtain ⟨vs, H1, I1, r1, a, C, ws, rfl, hl, T, ea, q⟩ := q1
  cases r1 with
  | @cons _ u0 _ ur ra rw' =>
    obtain rfl : u0 = Value.ref a := ra
    have hlen : ur.length ≤ sizeLine := by
      have := Paired.length rw'
      rw [sizeLine_eq]
      omega
    exact oinit_ok T I1 ea hlen fun s' J => ⟨.non, H1, J, rfl, q⟩

/-! ### the message -/
/-- a part of it: a text, or a parameter -/
def fPart : Expr → Option (Str ⊕ Str)
  | .Constant (.str s) _ _ => if s.length ≤ 1000 then some (.inl s) else none
  | .FormattedValue (.Name x _) c none _ => if c = -1 then some (.inr x) else none
  | _ => none
/-- what the frame holds of the parameters that it tells -/
def FmSt (X : Cx) (σ : L2.St) (ps : List (Str ⊕ Str)) : Prop := ∀ x, Sum.inr x ∈ ps → ∃ (i : Nat) (z : Int), X.N[i]? = some x ∧ Vis X.env.scope x ∧ (x == ("__debug__" : Str)) = false ∧ (x == ("__classdict__" : Str)) = false ∧ σ[i]? = some (some (.int z)) ∧ z.natAbs.log2 < 1920
theorem parts_pj {σ0 : L2.St} : ∀ {es : List Expr} {ps : List (Str ⊕ Str)}, mapO fPart es = some ps → FmSt X σ0 ps →
    ∃ ts, PJ X es ts ∧ ∀ (acc : Str) (H : Hp) (Q : Str → Hp → Prop), acc.length + 2000 * es.length ≤ 16777216 → (∀ s, Q s H) → tJs ts acc σ0 H Q
  | [], ps, h, _ => ⟨[], .nil, fun acc H Q _ q => q acc⟩
  | e :: es, ps, h, hf => by
    unfold mapO at h
    cases q1 : fPart e with
    | none => rw [q1] at h; simp at h
    | some y =>
      cases q2 : mapO fPart es with
      | none => rw [q1, q2] at h; simp at h
      | some ys =>
        rw [q1, q2] at h
        cases h
        obtain ⟨ts, pj, rest⟩ := parts_pj q2 fun x hx => hf x (List.mem_cons_of_mem _ hx)
        unfold fPart at q1
        split at q1
        · rename_i z j p
          split at q1
          · rename_i hz
            refine ⟨_, .cons pe_str pj, fun acc H Q hl q => ?_⟩
            simp only [List.length_cons] at hl
            have hap : (acc ++ z).length = acc.length + z.length := by
              show (acc.cps ++ z.cps).size = _
              exact Array.size_append
            exact ⟨z, rfl, by rw [sizeLine_eq, hap]; omega, rest _ H Q (by rw [hap]; omega) q⟩
          · cases q1
        · rename_i x p c p2
          split at q1
          · rename_i hc
            cases q1
            subst hc
            obtain ⟨i, n, h1, h2, h3, h4, h5, h6⟩ := hf x List.mem_cons_self
            refine ⟨_, .cons (pe_fmt (pe_var h1 h2 h3 h4)) pj, fun acc H Q hl q => ?_⟩
            simp only [List.length_cons] at hl
            refine ⟨.int n, h5, .inr ⟨n, rfl, h6, toString n, rfl, ?_, rest _ H Q ?_ q⟩⟩
            all_goals
              have hz : (toString n : Str).length ≤ 1921 := int_text_len_1921 h6
              have hap : (acc ++ (toString n : Str)).length = acc.length + (toString n : Str).length := by
                show (acc.cps ++ (toString n : Str).cps).size = _
                exact Array.size_append
              first | (rw [sizeLine_eq, hap]; omega) | (rw [hap]; omega)
          · cases q1
        · cases q1
theorem pe_msg {σ0 : L2.St} {es : List Expr} {ps : List (Str ⊕ Str)} (h : mapO fPart es = some ps) (h2 : 2 ≤ es.length) (h3 : es.length ≤ 20) (hf : FmSt X σ0 ps) : PE X (.JoinedStr es pos) (fun σ H Q => σ = σ0 ∧ ∀ s, Q (.str s) H) := by
  obtain ⟨ts, pj, go⟩ := parts_pj h hf
  match es, h2, pj with
  | [], h2, _ => simp at h2
  | [_], h2, _ => simp at h2
  | e1 :: e2 :: es, _, pj =>
    exact PE.imp (pe_joined pj) fun σ H Q ⟨e, q⟩ => by
      subst e
      exact go Str.empty H _ (by show 0 + _ ≤ _; omega) q
end

/-! ### the stores -/
/-- self.f = p -/
def fAsg (self : Str) : Stmt → Option (Str × Str)
  | .Assign [.Attribute (.Name s _) f _] (.Name p _) _ => if s = self then some (f, p) else none
  | _ => none
/-- the exception that is being made, its dict laid -/
def mkH (C : Cfg) (c : Nat) (a dx : Addr) (fs : List (Str × V)) (H0 : Hp) : Hp := upd (upd H0 dx (exd dx fs)) a (exo a (C.xad c) (some dx))
theorem mkH_put {C : Cfg} {c : Nat} {a dx : Addr} {fs gs : List (Str × V)} {H0 : Hp} (ne : dx ≠ a) : upd (mkH C c a dx fs H0) dx (exd dx gs) = mkH C c a dx gs H0 := by
  funext b
  unfold mkH upd
  by_cases h1 : b = dx
  · subst h1
    rw [if_pos rfl, if_neg ne, if_pos rfl]
  · rw [if_neg h1]
    by_cases h2 : b = a
    · rw [if_pos h2, if_pos h2]
    · rw [if_neg h2, if_neg h2, if_neg h1, if_neg h1]
/-- what the class's written part says for stores -/
structure XmF (C : Cfg) (c : Nat) : Prop where
  ox : OexC C.K (C.xad c)
  no : ∀ f ∈ C.FN, PySem.W.findIn C.K (.ref (C.xad c)) f = some none
section
variable {X : Cx} {C : Cfg} {c : Nat} {self : Str}
/-- what the frame holds for the stores -/
def AsSt (X : Cx) (C : Cfg) (self : Str) (a : Addr) (σ : L2.St) (l : List (Str × Str)) (ys : List V) : Prop :=
  (∃ i : Nat, X.N[i]? = some self ∧ Vis X.env.scope self ∧ (self == ("__debug__" : Str)) = false ∧ (self == ("__classdict__" : Str)) = false ∧ σ[i]? = some (some (V.ref a))) ∧
  Paired (fun (q : Str × Str) (y : V) => q.1 ∈ C.FN ∧ ∃ i : Nat, X.N[i]? = some q.2 ∧ Vis X.env.scope q.2 ∧ (q.2 == ("__debug__" : Str)) = false ∧ (q.2 == ("__classdict__" : Str)) = false ∧ σ[i]? = some (some y)) l ys
theorem fAsg_at {st : Stmt} {q : Str × Str} (h : fAsg self st = some q) : ∃ p1 p2 p3 p4, st = .Assign [.Attribute (.Name self p1) q.1 p2] (.Name q.2 p3) p4 := by
  unfold fAsg at h
  split at h
  · split at h
    · rename_i e
      cases h
      subst e
      exact ⟨_, _, _, _, rfl⟩
    · cases h
  · cases h
/-- the further ones -/
theorem asg_more (hK : X.K = C.K) (M : XmF C c) {a : Addr} {σ0 : L2.St} : ∀ {sts : List Stmt} {l : List (Str × Str)} {ys : List V}, mapO (fAsg self) sts = some l → AsSt X C self a σ0 l ys →
    ∃ t, PSs X sts t ∧ ∀ (D : Ends) (H0 : Hp) (dx : Addr) (fs : List (Str × V)), dx ≠ a → fs.length + l.length ≤ 900 → D.nx σ0 (mkH C c a dx (((l.map (·.1)).zip ys).reverse ++ fs) H0) → t D σ0 (mkH C c a dx fs H0)
  | [], l, ys, h, hf => by
    cases h
    obtain ⟨_, hp⟩ := hf
    cases hp
    exact ⟨_, pss_nil, fun D H0 dx fs ne hl q => q⟩
  | st :: sts, l, ys, h, hf => by
    unfold mapO at h
    cases q1 : fAsg self st with
    | none => rw [q1] at h; simp at h
    | some q =>
      cases q2 : mapO (fAsg self) sts with
      | none => rw [q1, q2] at h; simp at h
      | some l' =>
        rw [q1, q2] at h
        cases h
        obtain ⟨⟨i, s1, s2, s3, s4, s5⟩, hp⟩ := hf
        cases hp with
        | @cons _ y _ ys' h1 h2 =>
          obtain ⟨hm, j, p1, p2, p3, p4, p5⟩ := h1
          obtain ⟨t, pt, go⟩ := asg_more hK M q2 ⟨⟨i, s1, s2, s3, s4, s5⟩, h2⟩
          obtain ⟨z1, z2, z3, z4, rfl⟩ := fAsg_at q1
          refine ⟨_, pss_cons (ps_ost (pe_var s1 s2 s3 s4) (pe_var p1 p2 p3 p4)) pt, fun D H0 dx fs ne hl k => ?_⟩
          simp only [List.length_cons] at hl
          refine ⟨y, p5, .ref a, s5, a, C.xad c, rfl, by rw [hK]; exact M.ox, by rw [hK]; exact M.no _ hm, .inr ⟨dx, fs, upd_same, ?_, by omega, ?_⟩⟩
          · unfold mkH
            rw [upd_ne ne, upd_same]
          · rw [mkH_put ne]
            refine go D H0 dx _ ne (by simp only [List.length_cons]; omega) ?_
            have e : ((((q :: l').map (·.1)).zip (y :: ys')).reverse ++ fs) = (((l'.map (·.1)).zip ys').reverse ++ (q.1, y) :: fs) := by simp
            rw [← e]
            exact k
/-- the first one lays the dict -/
theorem asg_all (hK : X.K = C.K) (M : XmF C c) {a : Addr} {σ0 : L2.St} {sts : List Stmt} {l : List (Str × Str)} {ys : List V} (h : mapO (fAsg self) sts = some l) (hne : l ≠ []) (hl : l.length ≤ 900) (hf : AsSt X C self a σ0 l ys) :
    ∃ t, PSs X sts t ∧ ∀ (D : Ends) (H0 : Hp), (∀ dx, H0 dx = none → dx ≠ a → D.nx σ0 (mkH C c a dx ((l.map (·.1)).zip ys).reverse H0)) → t D σ0 (upd H0 a (exo a (C.xad c) none)) := by
  cases sts with
  | nil => cases h; exact absurd rfl hne
  | cons st sts =>
    unfold mapO at h
    cases q1 : fAsg self st with
    | none => rw [q1] at h; simp at h
    | some q =>
      cases q2 : mapO (fAsg self) sts with
      | none => rw [q1, q2] at h; simp at h
      | some l' =>
        rw [q1, q2] at h
        cases h
        obtain ⟨⟨i, s1, s2, s3, s4, s5⟩, hp⟩ := hf
        cases hp with
        | @cons _ y _ ys' h1 h2 =>
          obtain ⟨hm, j, p1, p2, p3, p4, p5⟩ := h1
          obtain ⟨t, pt, go⟩ := asg_more hK M q2 ⟨⟨i, s1, s2, s3, s4, s5⟩, h2⟩
          obtain ⟨z1, z2, z3, z4, rfl⟩ := fAsg_at q1
          refine ⟨_, pss_cons (ps_ost (pe_var s1 s2 s3 s4) (pe_var p1 p2 p3 p4)) pt, fun D H0 k => ?_⟩
          simp only [List.length_cons] at hl
          refine ⟨y, p5, .ref a, s5, a, C.xad c, rfl, by rw [hK]; exact M.ox, by rw [hK]; exact M.no _ hm, .inl ⟨upd_same, fun dx hdx ne => ?_⟩⟩
          have hdx : H0 dx = none := by rw [upd_ne ne] at hdx; exact hdx
          have e0 : upd (upd (upd H0 a (exo a (C.xad c) none)) dx (exd dx [(q.1, y)])) a (exo a (C.xad c) (some dx)) = mkH C c a dx [(q.1, y)] H0 := by
            funext b
            unfold mkH upd
            by_cases hb : b = a
            · simp only [hb, if_true]
            · simp only [hb, if_false]
          rw [e0]
          refine go D H0 dx _ ne (by simp only [List.length_cons, List.length_nil]; omega) ?_
          have e : (((q :: l').map (·.1)).zip (y :: ys')).reverse = (((l'.map (·.1)).zip ys').reverse ++ [(q.1, y)]) := by simp
          rw [← e]
          exact k dx hdx ne
end

/-! ### the def -/
/-- its text's parts: the base's name, self's, the message's parts, the stores -/
def iniX : List Stmt → Option (Str × Str × List Expr × List Stmt)
  | .Expr (.Call (.Attribute (.Name b _) m ap) [.Name s _, .JoinedStr es _] [] pos) _ :: sts => if m = "__init__" ∧ (ap.endLine == pos.line) = true then some (b, s, es, sts) else none
  | _ => none
theorem iniX_at {body : List Stmt} {b s : Str} {es : List Expr} {sts : List Stmt} (h : iniX body = some (b, s, es, sts)) : ∃ p1 p2 p3 p4 p5 p6, body = .Expr (.Call (.Attribute (.Name b p1) "__init__" p2) [.Name s p3, .JoinedStr es p4] [] p5) p6 :: sts ∧ (p2.endLine == p5.line) = true := by
  unfold iniX at h
  split at h
  · split at h
    · rename_i e
      cases h
      obtain ⟨rfl, e⟩ := e
      exact ⟨_, _, _, _, _, _, rfl, e⟩
    · cases h
  · cases h
def parOk (ps : List Str) (fm : List Bool) : Str ⊕ Str → Bool
  | .inl _ => true
  | .inr x => match ixOf x ps 0 with
    | some j => fm[j]? == some true
    | none => false
def okX (FN : List Str) (xb : Str) (ps : List Str) (body : List Stmt) (fs : List Nat) (fm : List Bool) : Bool := match iniX body with
  | some (b, s, es, sts) => match mapO fPart es, mapO (fAsg s) sts with
    | some parts, some l => decide (b = xb) && decide (ps = s :: l.map (·.2)) && decide (2 ≤ es.length) && decide (es.length ≤ 20) && decide (l ≠ []) && decide (l.length ≤ 800) && decide (l.map (fun q => ixOf q.1 FN 0) = fs.map some) && decide fs.Nodup && parts.all (parOk (l.map (·.2)) fm)
    | _, _ => false
  | none => false
/-- what it promises -/
def spX (C : Cfg) (c : Nat) (fs : List Nat) (fm : List Bool) : Sp := fun vs H Q _ => ∃ (a : Addr) (us : List V) (ds : List Mp.D) (Fz : Addr → Prop) (H0 : Hp), vs = .ref a :: us ∧ H0 a = none ∧ H = upd H0 a (exo a (C.xad c) none) ∧ us.length = fs.length ∧ Mp.fmOk fm ds = true ∧ Paired (Val C Fz H0) ds us ∧
  ∀ dx gs, H0 dx = none → dx ≠ a → XfOk C fs us gs → Q .non (mkH C c a dx gs H0)
theorem fmOk_at : ∀ {fm : List Bool} {ds : List Mp.D} {j : Nat}, Mp.fmOk fm ds = true → fm[j]? = some true → ∃ z, ds[j]? = some (.int z) ∧ z.natAbs.log2 < 1920
  | [], ds, j, _, h => by simp at h
  | true :: fm, [], j, h, _ => by simp [Mp.fmOk] at h
  | false :: fm, [], j, h, _ => by simp [Mp.fmOk] at h
  | true :: fm, d :: ds, j, h, e => by
    cases d <;> first | (simp [Mp.fmOk] at h; done) | skip
    rename_i z
    simp only [Mp.fmOk, Bool.and_eq_true, decide_eq_true_eq] at h
    cases j with
    | zero =>
      refine ⟨z, by simp, ?_⟩
      by_cases hz : z.natAbs = 0
      · rw [hz]; decide
      · have : z.natAbs.log2 < 64 := (Nat.log2_lt hz).mpr h.1
        omega
    | succ j =>
      obtain ⟨y, e1, e2⟩ := fmOk_at (j := j) h.2 (by simpa using e)
      exact ⟨y, by simpa using e1, e2⟩
  | false :: fm, d :: ds, j, h, e => by
    simp only [Mp.fmOk] at h
    cases j with
    | zero => simp at e
    | succ j =>
      obtain ⟨y, e1, e2⟩ := fmOk_at (j := j) h (by simpa using e)
      exact ⟨y, by simpa using e1, e2⟩
theorem fget_none {α : Type} {f : Nat} : ∀ {fs : List Nat} {us : List α}, f ∉ fs → Mp.fget fs us f = none
  | [], us, _ => by cases us <;> rfl
  | _ :: _, [], _ => rfl
  | f0 :: fs, u :: us, h => by
    simp only [List.mem_cons, not_or] at h
    simp only [Mp.fget]
    rw [if_neg (fun e => h.1 e.symm)]
    exact fget_none h.2
theorem lookup_snoc {n x : Str} {u : V} : ∀ {A : List (Str × V)}, (A ++ [(n, u)]).lookup x = match A.lookup x with
    | some v => some v
    | none => if x = n then some u else none
  | [] => by
    show ([(n, u)] : List (Str × V)).lookup x = _
    rw [lookup_put]
    rfl
  | q :: A => by
    obtain ⟨m, v⟩ := q
    rw [List.cons_append, lookup_put, lookup_put]
    by_cases e : x = m
    · rw [if_pos e, if_pos e]
    · rw [if_neg e, if_neg e]
      exact lookup_snoc
/-- the stores, one behind another, as the fields by number -/
theorem xf_rev {FN : List Str} (nd : FN.Nodup) : ∀ (l : List (Str × Str)) (fs : List Nat) (us : List V), l.map (fun q => ixOf q.1 FN 0) = fs.map some → fs.Nodup → us.length = fs.length → ∀ f x, FN[f]? = some x → (((l.map (·.1)).zip us).reverse).lookup x = Mp.fget fs us f
  | [], fs, us, h, _, hl, f, x, _ => by
    cases fs with
    | cons _ _ => simp at h
    | nil => cases us <;> rfl
  | q :: l, [], us, h, _, _, _, _, _ => by simp at h
  | q :: l, g :: fs, [], _, _, hl, _, _, _ => by simp at hl
  | q :: l, g :: fs, y :: us, h, hn, hl, f, x, hf => by
    simp only [List.map_cons, List.cons.injEq] at h
    obtain ⟨n1, n2⟩ := List.nodup_cons.mp hn
    obtain ⟨j, ej, hj⟩ := ixOf_at h.1
    rw [Nat.zero_add] at ej
    subst ej
    have zip : (((q :: l).map (·.1)).zip (y :: us)).reverse = ((l.map (·.1)).zip us).reverse ++ [(q.1, y)] := by simp
    rw [zip, lookup_snoc, xf_rev nd l fs us h.2 n2 (by simpa using hl) f x hf]
    simp only [Mp.fget]
    by_cases e : g = f
    · subst e
      have ex : x = q.1 := by rw [hj] at hf; exact (Option.some.inj hf).symm
      rw [fget_none n1, if_pos rfl]
      simp [ex]
    · have ex : x ≠ q.1 := fun z => by
        subst z
        exact e ((List.getElem?_inj (List.getElem?_eq_some_iff.mp hj).1 nd).mp (by rw [hj, hf]))
      rw [if_neg e]
      cases Mp.fget fs us f with
      | some v => rfl
      | none => simp [ex]
section
variable {P : Program} {w : World} {K : PySem.W.Frag} {mg : Str → Option Value} {base : Heap} {C : Cfg}
theorem xini_ok {x qual xb : Str} {params : Arguments} {body : List Stmt} {scope : Scope} {f : Addr} {fd : FuncData} {ps : List Str} {c : Nat} {fs : List Nat} {fm : List Bool} {G : Addr} (F : FunD K x qual params body scope [] [] f fd) (S : FnScope ps ps scope) (hKC : K = C.K) (nd : C.FN.Nodup) (M : XmF C c) (GF : GeF K mg xb G)
    (hgl : scope.names.lookup xb = some .globalImplicit) (hloc : ∀ x ∈ ps, (scope.names.lookup x = some .local ∨ scope.names.lookup x = some .cell) ∧ (x == ("__debug__" : Str)) = false ∧ (x == ("__classdict__" : Str)) = false) (ok : okX C.FN xb ps body fs fm = true) :
    FnOk P w K mg base (L2.CX P w) 1 f fd ps (spX C c fs fm) := by
  unfold okX at ok
  split at ok
  · rename_i b s es sts hin
    split at ok
    · rename_i parts l h1 h2
      simp only [Bool.and_eq_true, decide_eq_true_eq] at ok
      obtain ⟨⟨⟨⟨⟨⟨⟨⟨rfl, rfl⟩, a1⟩, a2⟩, a3⟩, a4⟩, a5⟩, a6⟩, a7⟩ := ok
      obtain ⟨p1, p2, p3, p4, p5, p6, rfl, hline⟩ := iniX_at hin
      have lens : fs.length = l.length := by
        have := congrArg List.length a5
        simpa using this.symm
      refine F.ok S (fun vs H Q E h => ?_) fun cdv A outer s0 H vs Q E hr h => ?_
      · obtain ⟨a, us, ds, Fz, H0, rfl, _, _, hl, _⟩ := h
        simp only [List.length_cons, List.length_map]
        omega
      · obtain ⟨a, us, ds, Fz, H0, rfl, ha, rfl, hl, hfm, hp, k⟩ := h
        have hN : (cxOf (L2.CX P w) P w K mg base (s :: l.map (·.2)) qual scope f cdv A outer s0 (upd H0 a (exo a (C.xad c) none)) E).N = s :: l.map (·.2) := rfl
        have st : L2.start (s :: l.map (·.2)) (V.ref a :: us) = some (V.ref a) :: us.map some := by
          unfold L2.start
          have e : (s :: l.map (·.2)).length - (V.ref a :: us).length = 0 := by simp only [List.length_cons, List.length_map]; omega
          rw [e]
          simp
        have vis : ∀ x ∈ s :: l.map (·.2), Vis scope x ∧ (x == ("__debug__" : Str)) = false ∧ (x == ("__classdict__" : Str)) = false := fun x hx => by
          obtain ⟨v1, v2, v3⟩ := hloc x hx
          refine ⟨?_, v2, v3⟩
          rcases v1 with v1 | v1
          · exact .inl v1
          · exact .inr (.inl v1)
        obtain ⟨v1, v2, v3⟩ := vis s List.mem_cons_self
        have fst : FmSt (cxOf (L2.CX P w) P w K mg base (s :: l.map (·.2)) qual scope f cdv A outer s0 (upd H0 a (exo a (C.xad c) none)) E) (some (V.ref a) :: us.map some) parts := fun x hx => by
          have := List.all_eq_true.mp a7 _ hx
          simp only [parOk] at this
          split at this
          · rename_i j hj
            obtain ⟨j', e, hjx⟩ := ixOf_at hj
            rw [Nat.zero_add] at e
            subst e
            obtain ⟨z, e1, e2⟩ := fmOk_at hfm (by simpa using this)
            obtain ⟨u, hu, vu⟩ := pget hp e1
            have vu : u = .int z := by simpa only [Val] using vu
            subst vu
            obtain ⟨w1, w2, w3⟩ := vis x (List.mem_cons_of_mem _ (List.mem_of_getElem? hjx))
            exact ⟨j + 1, z, (by rw [hN, List.getElem?_cons_succ]; exact hjx), w1, w2, w3, by simp [hu], e2⟩
          · cases this
        have ast : AsSt (cxOf (L2.CX P w) P w K mg base (s :: l.map (·.2)) qual scope f cdv A outer s0 (upd H0 a (exo a (C.xad c) none)) E) C s a (some (V.ref a) :: us.map some) l us := by
          refine ⟨⟨0, rfl, v1, v2, v3, rfl⟩, ?_⟩
          have key : ∀ (l' : List (Str × Str)) (us' : List V) (n : Nat), us'.length = l'.length → l' = l.drop n → us' = us.drop n → Paired (fun (q : Str × Str) (y : V) => q.1 ∈ C.FN ∧ ∃ i : Nat, (s :: l.map (·.2))[i]? = some q.2 ∧ Vis scope q.2 ∧ (q.2 == ("__debug__" : Str)) = false ∧ (q.2 == ("__classdict__" : Str)) = false ∧ (some (V.ref a) :: us.map some)[i]? = some (some y)) l' us' := by
            intro l'
            induction l' with
            | nil => intro us' n h _ _; cases us' with
              | nil => exact .nil
              | cons _ _ => simp at h
            | cons q l' ih =>
              intro us' n h e1 e2
              cases us' with
              | nil => simp at h
              | cons y us' =>
                have g1 : l[n]? = some q := by
                  have := congrArg (fun z => z[0]?) e1
                  simpa using this.symm
                have g2 : us[n]? = some y := by
                  have := congrArg (fun z => z[0]?) e2
                  simpa using this.symm
                have hq : q.2 ∈ l.map (·.2) := List.mem_map.mpr ⟨q, List.mem_of_getElem? g1, rfl⟩
                obtain ⟨w1, w2, w3⟩ := vis q.2 (List.mem_cons_of_mem _ hq)
                refine .cons ⟨?_, n + 1, by simp [g1], w1, w2, w3, by simp [g2]⟩ (ih us' (n + 1) (by simpa using h) ?_ ?_)
                · have := congrArg (fun z => z[n]?) a5
                  simp only [List.getElem?_map, g1, Option.map_some] at this
                  cases hfn : fs[n]? with
                  | none => rw [hfn] at this; simp at this
                  | some g =>
                    rw [hfn] at this
                    simp only [Option.map_some, Option.some.injEq] at this
                    obtain ⟨j, _, hj⟩ := ixOf_at this
                    exact List.mem_of_getElem? hj
                · have := congrArg List.tail e1
                  rw [List.tail_cons, List.tail_drop] at this
                  exact this
                · have := congrArg List.tail e2
                  rw [List.tail_cons, List.tail_drop] at this
                  exact this
          exact key l us 0 (by omega) rfl rfl
        obtain ⟨t, pt, go⟩ := asg_all (X := cxOf (L2.CX P w) P w K mg base (s :: l.map (·.2)) qual scope f cdv A outer s0 (upd H0 a (exo a (C.xad c) none)) E) hKC M h2 a3 (by omega) ast
        refine ⟨_, pss_cons (ps_expr (pe_ginit (X := cxOf (L2.CX P w) P w K mg base (s :: l.map (·.2)) qual scope f cdv A outer s0 (upd H0 a (exo a (C.xad c) none)) E) GF hgl (pa_cons (pe_var (i := 0) rfl v1 v2 v3) (pa_cons (pe_msg h1 a1 a2 fst) pa_nil (by rfl)) (by rfl)) (meth_tree rfl hline (by simp only [List.mem_cons, List.not_mem_nil, or_false, forall_eq_or_imp, forall_eq]; exact ⟨fun _ _ => rfl, fun _ _ => rfl⟩) (by simp)) (by rfl) (by rfl)) (by rfl)) pt, ?_⟩
        · rw [st]
          refine ⟨V.ref a, rfl, rfl, fun m => ⟨a, C.xad c, [V.str m], rfl, by simp, (show OexC K (C.xad c) by rw [hKC]; exact M.ox), upd_same, ?_⟩⟩
          refine go _ H0 fun dx hdx ne => ?_
          exact k dx _ hdx ne ⟨by rw [hl], xf_rev nd l fs us a5 a6 hl⟩
    · cases ok
  · cases ok
end
end MpS

/-! MpTry: try with several except clauses, each with a name or without. -/
namespace MpS
open PySem PySem.Spec PyProof.Rows L2

/-- an except clause: its class, the slot of its name, its suite -/
structure TH where
  c : Value
  oi : Option Nat
  ts : Addr → Value → Option Addr → TS
/-- behind the suite the name is gone -/
def dnE (oi : Option Nat) (D : Ends) : Ends := match oi with
  | none => D
  | some i => { nx := fun σ H => D.nx (σ.set i none) H, rt := D.rt, bk := fun σ H => D.bk (σ.set i none) H, ct := fun σ H => D.ct (σ.set i none) H }
def snE (oi : Option Nat) (a : Addr) (σ : L2.St) : L2.St := match oi with
  | none => σ
  | some i => σ.set i (some (.ref a))
def wTri (K : PySem.W.Frag) (Wout : WX) (D : Ends) : List TH → WX
  | [] => Wout
  | t :: r => fun cls d σ H => ∃ b, PySem.W.exmOne K cls t.c = some b ∧ (b = true → ∀ a, H a = none → t.ts a cls d (dnE t.oi D) (snE t.oi a σ) H) ∧ (b = false → wTri K Wout D r cls d σ H)
/-- the suites' judgements -/
inductive HdsT (X : Cx) : List ExceptHandler → List TH → Prop
  | nil : HdsT X [] []
  | cons {x : Str} {t : TH} {on : Option Str} {b₀ : Stmt} {suite : List Stmt} {np pos' : Pos} {hds : List ExceptHandler} {l : List TH} (hc : Names X x t.c)
      (hn : match on, t.oi with | none, none => True | some n, some i => X.N[i]? = some n ∧ X.env.kindOf n = some .local | _, _ => False)
      (hsu : ∀ (a : Addr) (oe : Obj) (cls : Value) (d : Option Addr) (pn : List (Addr × Obj)), Zc cls d oe → (∃ vs, oe.data = .fields vs) → PSs (X.suite a ((a, oe) :: pn)) (b₀ :: suite) (t.ts a cls d)) (r : HdsT X hds l) :
      HdsT X (.ExceptHandler (some (.Name x np)) on (b₀ :: suite) pos' :: hds) (t :: l)
section
variable {X : Cx} {body : List Stmt} {h₀ : ExceptHandler} {hds : List ExceptHandler} {l : List TH} {pos : Pos} {tb : WX → TS} {Wout : WX}
theorem ps_tri (hs : X.stack = X.env :: X.outer) (hf : X.env.frame = some X.env.locals) (hN : X.N.Nodup) (tk : Takes X Wout)
    (hb : ∀ (W : WX) (pn : List (Addr × Obj)) (xe : Value → Shared → Prop), Takes (X.tr pn xe) W → PassesOwn (model X.prog X.w) X.A X.env xe → PSs (X.tr pn xe) body (tb W))
    (hh : HdsT X (h₀ :: hds) l) : PS X (.Try body (h₀ :: hds) [] [] pos) (fun D σ H => tb (wTri X.K Wout D l) D σ H) := by
  refine ⟨fun pins s σ H D I h => wpAny_Try_except ?_⟩
  have ok := I.ok
  have hfr : X.A.frames = some (X.env :: X.outer) := by rw [ok.frames, hs]
  have bodyOk := (hb (wTri X.K Wout D l) (X.pn ++ pins) (fun e s₁ => wpAny (model X.prog X.w) X.A (noteFrame e X.env) (fun _ s₂ => wpAny (model X.prog X.w) X.A (setFlight e none) (fun _ s₃ =>
    wpAny (model X.prog X.w) X.A (handleBy e X.env (h₀ :: hds)) (SP X pins D) X.xe s₃) X.xe s₂) X.xe s₁) (fun u s' xx => ?ctch) PassesOwn.looking).run [] s σ H D (I.toTry _) h
  · refine wpAny_mono bodyOk (fun fl s1 hsp => ?_) fun _ _ z => z
    cases fl with
    | next => exact wpAny_execs_nil (let ⟨σ', H', J', q⟩ := hsp; ⟨σ', H', J'.ofTry ok, q⟩)
    | brk => exact let ⟨σ', H', J', q⟩ := hsp; ⟨σ', H', J'.ofTry ok, q⟩
    | cont => exact let ⟨σ', H', J', q⟩ := hsp; ⟨σ', H', J'.ofTry ok, q⟩
    | ret u => exact let ⟨v, σ', H', J', r, q⟩ := hsp; ⟨v, σ', H', J'.ofTry ok, r, q⟩
  case ctch =>
    obtain ⟨a, B, sI, pins', σ', H', cls, d, rfl, J', nb, up, sky, na, os, ag, w⟩ := xx
    have J := J'.ofTry ok
    refine Sky.land (B := B) Zc.steady hfr hf (show Sky B (X.env :: X.outer) a (Zc cls d) X.env.locals s'.heap by rw [← hs]; exact sky) fun h3 fl3 up3 => ?_
    have J3 : Inv X pins σ' H' { s' with heap := h3 } := J.landed nb fl3.1 (up.trans up3) os ag
    obtain ⟨oe3, vs3, he3, hz3, hd3⟩ := fl3.there
    have nfr : a ∉ frs (X.env :: X.outer) := fun hm => by
      obtain ⟨_, o', e', hnf⟩ := (fl3.2.2.1).mem hm
      rw [he3] at e'
      cases e'
      exact hnf _ hd3
    have nL : a ≠ X.env.locals := fun z => nfr (List.mem_filterMap.mpr ⟨X.env, List.mem_cons_self, by rw [hf, z]⟩)
    have nF : a ∉ X.fs := fun hm => by
      obtain ⟨e, he, q⟩ := List.mem_filterMap.mp hm
      exact nfr (List.mem_filterMap.mpr ⟨e, List.mem_cons_of_mem _ he, q⟩)
    have S3 := J3.suite he3 hd3 na nL nF
    suffices go : ∀ {hds' : List ExceptHandler} {l' : List TH}, HdsT X hds' l' → wTri X.K Wout D l' cls d σ' H' → wpAny (model X.prog X.w) X.A (handleBy (.ref a) X.env hds') (SP X pins D) X.xe { s' with heap := h3 } from go hh w
    intro hds' l' hk
    induction hk with
    | nil =>
      intro w
      obtain ⟨k1, k2, k3, oe, vs, T, oT, ts', he, hz, hd, h1, hr⟩ := id fl3
      have fin : wpAny (model X.prog X.w) X.A (setFlight (.ref a) X.env.frame) (fun _ s4 => wpAny (model X.prog X.w) X.A (throw (.ref a) : Sem Flow) (SP X pins D) X.xe s4) X.xe { s' with heap := h3 } := by
        rw [hf]
        exact HandSPX.setFlight_upZ fl3 fun h4 hh4 up4 => wpAny_throw (tk _ _ ⟨a, B, sI, pins, σ', H', cls, d, rfl, J, nb, (up.trans up3).trans up4, .inr (.inr (by rw [hs]; exact hh4)), na, os, ag, w⟩)
      refine wpAny_handleBy_nil ?_
      unfold PySem.passOn
      refine wpAny_bind (wpAny_field he hd h1 ?_)
      rw [if_neg (by simp)]
      first
        | exact wpAny_bind (wpAny_pure (wpAny_bind fin))
        | exact wpAny_bind fin
    | @cons x t on b₀ suite np pos' hds2 l2 hc hn hsu r ih =>
      intro w
      obtain ⟨b, hb1, hyes, hno⟩ := w
      have LT : PySem.W.Looks (model X.prog X.w) h3 (typeOf (.ref a)) cls := fun A Q E s k q => wpAny_typeOf_ref (k _ _ he3) (by rw [hz3.1]; exact q)
      have LM := PySem.W.exm_one (M := model X.prog X.w) J3.kIn LT hb1
      have cl : ∀ {Q : Value → Shared → Prop} {E : Value → Shared → Prop}, Q t.c { s' with heap := h3 } → wpAny (model X.prog X.w) (X.A.mark (some (.ref a))) (eval (.Name x np) X.env) Q E { s' with heap := h3 } := fun {Q E} q => by
        obtain ⟨g1, g2, g3 | ⟨g3, g4, g5⟩⟩ := hc
        · exact ld_glob (X := X.suite a ((a, oe3) :: (X.pn ++ pins))) S3 g1 g3 q g2
        · exact ld_blt (X := X.suite a ((a, oe3) :: (X.pn ++ pins))) S3 g1 g3 g4 q g5 g2
      refine wpAny_handleBy_cons (codeAny_handlers_test (cl (LM.here ?_))) (by intro q; cases q)
      cases b with
      | false => exact ih (hno rfl)
      | true =>
        have hy := hyes rfl a na
        cases on with
        | none =>
          cases ho : t.oi with
          | some i => rw [ho] at hn; exact hn.elim
          | none =>
            rw [ho] at hy
            refine codeAny_handlers_suite (HandSPX.lands_againZ fl3 fun h4 fl4 up4 => ?_)
            have J4 : Inv X pins σ' H' { s' with heap := h4 } := J.landed nb fl4.1 ((up.trans up3).trans up4) os ag
            obtain ⟨oe4, vs4, he4, hz4, hd4⟩ := fl4.there
            have S4 := J4.suite he4 hd4 na nL nF
            refine wpAny_mono ((hsu a oe4 cls d (X.pn ++ pins) hz4 ⟨_, hd4⟩).run [] _ _ H' _ S4 hy) (fun fl s6 hsp => ?_) fun _ _ z => z.elim
            cases fl with
            | next => exact let ⟨σ6, H6, S6, q6⟩ := hsp; ⟨_, _, S6.unsuite ok, q6⟩
            | brk => exact let ⟨σ6, H6, S6, q6⟩ := hsp; ⟨_, _, S6.unsuite ok, q6⟩
            | cont => exact let ⟨σ6, H6, S6, q6⟩ := hsp; ⟨_, _, S6.unsuite ok, q6⟩
            | ret u => exact let ⟨v6, σ6, H6, S6, r6, q6⟩ := hsp; ⟨_, _, _, S6.unsuite ok, r6, q6⟩
        | some n =>
          cases ho : t.oi with
          | none => rw [ho] at hn; exact hn.elim
          | some i =>
            rw [ho] at hy hn
            obtain ⟨hi, hln⟩ := hn
            refine codeAny_handlers_suite_as (HandSPX.lands_againZ fl3 fun h4 fl4 up4 => ?_)
            have J4 : Inv X pins σ' H' { s' with heap := h4 } := J.landed nb fl4.1 ((up.trans up3).trans up4) os ag
            obtain ⟨oe4, vs4, he4, hz4, hd4⟩ := fl4.there
            have S4 := J4.suite he4 hd4 na nL nF
            refine store_ok (X := X.suite a ((a, oe4) :: (X.pn ++ pins))) (v := .ref a) S4 hN hi (.inl hln) rfl (fun s5 S5 => ?_) (.inr hln)
            refine wpAny_mono ((hsu a oe4 cls d (X.pn ++ pins) hz4 ⟨_, hd4⟩).run [] s5 _ H' _ S5 hy) (fun fl s6 hsp => ?_) fun _ _ z => z.elim
            have off : ∀ {σ6 : L2.St} {H6 : Hp} {Q : Shared → Prop}, Inv (X.suite a ((a, oe4) :: (X.pn ++ pins))) [] σ6 H6 s6 → (∀ s7, Inv X pins (σ6.set i none) H6 s7 → Q s7) → wpAny (model X.prog X.w) X.A (do bindName X.env n .none; unbindBehindTheSuite X.env n pos') (fun _ s7 => Q s7) X.xe s6 := fun {σ6 H6 Q} S6 hq => gone_ok (S6.unsuite ok) hN hi hln hq
            cases fl with
            | next => exact let ⟨σ6, H6, S6, q6⟩ := hsp; off S6 fun s7 J7 => ⟨_, _, J7, q6⟩
            | brk => exact let ⟨σ6, H6, S6, q6⟩ := hsp; off S6 fun s7 J7 => ⟨_, _, J7, q6⟩
            | cont => exact let ⟨σ6, H6, S6, q6⟩ := hsp; off S6 fun s7 J7 => ⟨_, _, J7, q6⟩
            | ret u => exact let ⟨v6, σ6, H6, S6, r6, q6⟩ := hsp; off S6 fun s7 J7 => ⟨_, _, _, J7, r6, q6⟩
end
end MpS

/-! MpRs: raise. -/
namespace MpS
open PySem PySem.Spec PyProof.Rows L2

/-- an exception's class, called -/
structure MxF (P : Program) (w : World) (K : PySem.W.Frag) (mg : Str → Option Value) (base : Heap) (C : Cfg) (x : Str) (c : Nat) (fs : List Nat) (fm : List Bool) : Prop where
  gm : mg x = some (.ref (C.xad c))
  nd : (x == ("__debug__" : Str)) = false
  lt : c < C.nx
  M : XmF C c
  own : fs = [] → fm = [] ∧ PySem.W.excIn K (C.xad c) PySem.HandSPX.veTail "ValueError.__new__" = true ∧ PySem.W.keepIn K (.ref (C.xad c)) = true
  ini : fs ≠ [] → ∃ fI fd ps, PySem.W.findIn K (.ref (C.xad c)) "__init__" = some (some (.ref fI)) ∧ PySem.W.typeIn K (.ref fI) = some (.type "function") ∧ FnOk P w K mg base (L2.CX P w) 1 fI fd ps (spX C c fs fm) ∧ Binds K fd ps []
section
variable {C : Cfg} {G G' : List Md} {F0 Fz Fz1 : Addr → Prop} {Hr H H1 : Hp} {env : List Mp.D} {σ : L2.St} {As : Nat → List Addr} {sf : Mp.Sf} {W : WX}
variable {X : Cx} {es : List Expr} {es' : List Mp.E} {p pos pos2 : Pos} {rt : Nat} {L : Lx} {x : Str} {c : Nat} {fs : List Nat} {fm : List Bool}
theorem s_rse0 (hx : okL L G = true) (hK : X.K = C.K) (hc : X.calm = true) (tk : Takes X W) (F : MxF X.prog X.w X.K X.mg X.base C x c [] fm) (hg : Gl X x) {m : Str} {j : Nat} {p2 : Pos} :
    PS X (.Raise (some (.Call (.Name x p) [.Constant (.str m) j p2] [] pos)) none pos2) (tSt C sf W rt L G G' (.rse c [] [] [])) := by
  obtain ⟨_, h2, h3⟩ := F.own rfl
  have o := F.M.ox
  rw [← hK] at o
  refine PS.imp (ps_raise hc tk (pmk_own PySem.F.excBase_ValueError h2 F.gm h3 (raises_own o.exC o.tyC) hg F.nd)) fun D σ H ⟨F0, Fz, Hr, env, As, b, w⟩ => ?_
  have w : ExW C W F0 Hr L Fz H (.ins c [] []) env := w
  exact ExW.at hx b w _ _ _ _ (.refl b.ext.trk) ⟨F.lt, rfl, .inl ⟨rfl, rfl, rfl⟩⟩
theorem s_rse (hx : okL L G = true) (hK : X.K = C.K) (hc : X.calm = true) (tk : Takes X W) (hr : Room 2 X.A) (F : MxF X.prog X.w X.K X.mg X.base C x c fs fm) (hg : Gl X x) (hne : fs ≠ []) {e : Expr} (hl : (e :: es).length ≤ 1000)
    (h : Args X C G sf W (List.replicate es'.length (.rd 0)) (e :: es) es') :
    PS X (.Raise (some (.Call (.Name x p) (e :: es) [] pos)) none pos2) (tSt C sf W rt L G G' (.rse c fs fm es')) := by
  obtain ⟨fI, fd, ps, h2, h3, FI, hb⟩ := F.ini hne
  have o := F.M.ox
  rw [← hK] at o
  refine PS.imp (ps_raise hc tk (pmk_oex o h2 h3 FI hr hb .nil (fun _ _ _ _ _ _ _ ⟨_, _, _, _, _, _, _, _, _, _, _, _, z⟩ => z.elim) hg F.gm (a_of h) F.nd (h.nost e List.mem_cons_self es X.env) (nost_any fun e he => h.nost e (List.mem_cons_of_mem _ he)))) fun D σ H ⟨F0, Fz, Hr, env, As, b, w⟩ => ?_
  have w := OutW.toOl hx b (show OutW C W D F0 Hr rt L G' Fz H ((Mp.evs es' sf env).toOl env fun ds => if ds.length = fs.length ∧ Mp.fmOk fm ds = true then .ex (.ins c fs ds) env else .bad) from w)
  refine ⟨F0, Fz, Hr, env, As, b, w.imp fun ds _ q vs H1 Fz1 A e1 r n f => ?_⟩
  obtain ⟨pr, rfl, hlen⟩ := r.vals
  have q : OutW C W D F0 Hr rt L G' Fz H (if ds.length = fs.length ∧ Mp.fmOk fm ds = true then .ex (.ins c fs ds) env else .bad) := q
  split at q
  · rename_i hq
    obtain ⟨q1, q2⟩ := hq
    have hvl : vs.length = ds.length := pr.length.symm
    have hel : es'.length = (e :: es).length := h.len.2
    refine ⟨by rw [hvl, hlen, hel]; exact hl, fun a ha => ⟨a, vs, ds, Fz1, H1, by rw [List.append_nil], ha, rfl, by rw [hvl, q1], q2, pr, fun dx gs hdx hda xf => ⟨rfl, dx, gs, ?_, ?_, hdx, ?_⟩⟩⟩
    · unfold mkH
      rw [upd_same]
    · unfold mkH
      rw [upd_ne hda, upd_same]
    · have he : upd (del (mkH C c a dx gs H1) a) dx (.xd gs) = upd H1 dx (.xd gs) := by
        funext b
        unfold mkH upd del
        by_cases h1 : b = dx
        · rw [if_pos h1, if_pos h1]
        · rw [if_neg h1, if_neg h1]
          by_cases h2 : b = a
          · rw [if_pos h2, h2, ha]
          · rw [if_neg h2]
            show (if b = a then _ else if b = dx then _ else H1 b) = H1 b
            rw [if_neg h2, if_neg h1]
      rw [he]
      have trk1 := e1.trk
      have same2 : Same H1 (upd H1 dx (.xd gs)) := fun b o ho => by
        rw [upd_ne (fun z => by rw [z, hdx] at ho; cases ho)]
        exact ho
      have e2 : Ext Fz1 H1 (fun b => Fz1 b ∨ b = dx) (upd H1 dx (.xd gs)) := ⟨same2, fun _ z => .inl z, fun b z => by
        rcases z with z | z
        · exact .inl z
        · exact .inr (by rw [z]; exact hdx), fun b z => by
        rcases z with z | z
        · obtain ⟨o, ho⟩ := trk1 b z
          exact ⟨o, same2 b o ho⟩
        · exact ⟨_, by rw [z]; exact upd_same⟩⟩
      have b1 := b.grow (e1.trans e2)
      have q' : ExW C W F0 Hr L Fz H (.ins c fs ds) env := q
      refine ExW.at hx b q' _ _ _ _ (e1.trans e2) ⟨F.lt, rfl, .inr ⟨dx, gs, vs, rfl, .inr rfl, upd_same, xf, ?_⟩⟩
      exact ValL.keep e2.sub (.of e2.same) _ _ (valL_iff.mpr pr)
  · exact (show False from q).elim
end
end MpS

/-! MpCur: what self's address and the exception at hand are changes nothing else. -/
namespace MpS
open PySem PySem.Spec PyProof.Rows L2

/-- what the table says of exceptions' classes -/
structure ROk (P : Program) (w : World) (K : PySem.W.Frag) (mg : Str → Option Value) (base : Heap) (C : Cfg) (T : Tb) : Prop where
  rx : ∀ x e, entXOf x T.xcl = some e → MxF P w K mg base C x e.c e.fs e.fm
  xk : ∀ x k, xkOf T x = some k → ∃ hv, mg x = some hv ∧ (x == ("__debug__" : Str)) = false ∧ ∀ c, c < C.nx → PySem.W.exmOne C.K (.ref (C.xad c)) hv = some (Mp.hitX k c)
def Cfg.wth (C : Cfg) (p : Cur) : Cfg := ⟨C.K, C.cad, C.nc, C.FN, C.xad, C.nx, p⟩
section
variable {C : Cfg} {p : Cur}
theorem fsOk_pin {c : Nat} {fs : List Nat} {us : List V} {fs' : List (Str × V)} : FsOk (C.wth p) c fs us fs' ↔ FsOk C c fs us fs' := ⟨fun h => ⟨h.cl, h.len, h.le, h.at_, h.no⟩, fun h => ⟨h.cl, h.len, h.le, h.at_, h.no⟩⟩
mutual
theorem val_pin {Fz : Addr → Prop} {H : Hp} : ∀ (d : Mp.D) (v : V), Val (C.wth p) Fz H d v ↔ Val C Fz H d v
  | .un, v => by simp only [Val]
  | .non, v => by simp only [Val]
  | .bl b, v => by simp only [Val]
  | .int i, v => by simp only [Val]
  | .str s, v => by simp only [Val]
  | .tup ds, v => by
    simp only [Val]
    have := fun us => valL_pin (Fz := Fz) (H := H) ds us
    simp only [this]
    rfl
  | .lst ds, v => by
    simp only [Val]
    have := fun us => valL_pin (Fz := Fz) (H := H) ds us
    simp only [this]
  | .dct tk ks vs, v => by
    simp only [Val]
    have := fun us => valL_pin (Fz := Fz) (H := H) vs us
    simp only [this]
  | .ins c fs vs, v => by
    simp only [Val]
    have := fun us => valL_pin (Fz := Fz) (H := H) vs us
    simp only [this, fsOk_pin]
    rfl
  | .scr ns, v => by simp only [Val]; rfl
theorem valL_pin {Fz : Addr → Prop} {H : Hp} : ∀ (ds : List Mp.D) (us : List V), ValL (C.wth p) Fz H ds us ↔ ValL C Fz H ds us
  | [], us => by simp only [ValL]
  | d :: ds, us => by
    simp only [ValL]
    have := fun us => valL_pin (Fz := Fz) (H := H) ds us
    have h2 := fun u => val_pin (Fz := Fz) (H := H) d u
    simp only [this, h2]
end
theorem val_eq : Val (C.wth p) = Val C := by
  funext Fz H d v
  exact propext (val_pin d v)
theorem valL_eq : ValL (C.wth p) = ValL C := by
  funext Fz H d v
  exact propext (valL_pin d v)
theorem fs_eq : FsOk (C.wth p) = FsOk C := by
  funext a b c d
  exact propext fsOk_pin
theorem rd_eq {Fz : Addr → Prop} {H : Hp} : ∀ k, Rd (C.wth p) Fz H k = Rd C Fz H k
  | 0 => by
    funext d v
    show Val (C.wth p) Fz H d v = Val C Fz H d v
    rw [val_eq]
  | k + 1 => by
    funext d v
    have ih := rd_eq (Fz := Fz) (H := H) k
    cases d <;> simp only [Rd, ih, val_eq, valL_eq, fs_eq] <;> rfl
theorem ow_eq {Fz : Addr → Prop} {H : Hp} : ∀ k, Ow (C.wth p) Fz H k = Ow C Fz H k
  | 0 => by
    funext d v A
    show (Val (C.wth p) Fz H d v ∧ A = []) = (Val C Fz H d v ∧ A = [])
    rw [val_eq]
  | k + 1 => by
    funext d v A
    have ih := ow_eq (Fz := Fz) (H := H) k
    cases d <;> simp only [Ow, ih, val_eq, valL_eq, fs_eq] <;> rfl
theorem rs_eq {k : Kd} {Fz : Addr → Prop} {H : Hp} : Rs (C.wth p) k Fz H = Rs C k Fz H := by
  funext d v A
  cases k <;> simp only [Rs, rd_eq, ow_eq]
theorem rsL_eq {Fz : Addr → Prop} {H : Hp} : ∀ ks, RsL (C.wth p) Fz H ks = RsL C Fz H ks
  | [] => by
    funext ds vs A
    rfl
  | k :: ks => by
    funext ds vs A
    simp only [RsL, rs_eq, rsL_eq ks]
theorem xf_eq : XfOk (C.wth p) = XfOk C := by
  funext a b c
  exact propext ⟨fun h => ⟨h.len, h.at_⟩, fun h => ⟨h.len, h.at_⟩⟩
theorem xRep_eq : XRep (C.wth p) = XRep C := by
  funext Fz H d cls dx
  cases d <;> simp only [XRep, xf_eq, valL_eq] <;> rfl
theorem xw_eq : XW (C.wth p) = XW C := by
  funext E Fz H d
  simp only [XW, xRep_eq]
theorem wg_eq {α : Type} {E : XK} {Fz : Addr → Prop} {H : Hp} {r : Mp.R α} {P : α → Prop} : Wg (C.wth p) E Fz H r P = Wg C E Fz H r P := by
  cases r <;> simp only [Wg, xw_eq]
theorem fin_eq : Fin (C.wth p) = Fin C := by
  funext Q k Fz H d
  simp only [Fin, rs_eq]
theorem wf_eq : WF (C.wth p) = WF C := by
  funext E k Fz H r Q
  simp only [WF, wg_eq, fin_eq]
theorem spB_eq : spB (C.wth p) = spB C := by
  funext g md rt vs H Q E
  simp only [spB, rsL_eq, wf_eq]
theorem spI_eq : spI (C.wth p) = spI C := by
  funext c g md vs H Q E
  simp only [spI, rsL_eq, wg_eq, ow_eq]
  rfl
section
variable {P : Program} {w : World} {K : PySem.W.Frag} {mg : Str → Option Value} {base : Heap} {T : Tb} {lv : Nat}
theorem FnF.pin {x : Str} {g : Mp.Sf} {md : List Nat} {rt l : Nat} (F : FnF P w K mg base C x g md rt l) : FnF P w K mg base (C.wth p) x g md rt l := ⟨by rw [spB_eq]; exact F.ex, F.nd⟩
theorem TyF.pin {y : Mp.Ty} {u : Value} (F : TyF C y u) : TyF (C.wth p) y u := ⟨F.non, F.bl, F.int, F.str, F.tup, F.lst, F.ins⟩
theorem ClsF.pin {c : Nat} (F : ClsF C c) : ClsF (C.wth p) c := ⟨F.cls, F.no⟩
theorem ClsI.pin {c : Nat} (F : ClsI C c) : ClsI (C.wth p) c := ⟨F.cls, F.ha, F.hn, F.htk, F.hm⟩
theorem MkF.pin {c : Nat} {x : Str} {g : Mp.Sf} {md : List Nat} {l : Nat} (F : MkF P w K mg base C c x g md l) : MkF P w K mg base (C.wth p) c x g md l := ⟨by rw [spI_eq]; exact F.ex, F.nc, F.nd⟩
theorem MtF.pin {c : Nat} {x : Str} {g : Mp.Sf} {md : List Nat} {rt l : Nat} (F : MtF P w K mg base C c x g md rt l) : MtF P w K mg base (C.wth p) c x g md rt l := ⟨by rw [spB_eq]; exact F.ex⟩
theorem XcF.pin {c : Nat} (F : XcF C c) : XcF (C.wth p) c := ⟨F.xf, F.no, F.cl, F.ha, F.hn, F.ht, F.hm⟩
theorem XiF.pin {x : Str} {k : Nat} (F : XiF mg C x k) : XiF mg (C.wth p) x k := ⟨F.ex, F.nd⟩
theorem TOk.pin (F : TOk P w K mg base C T lv) : TOk P w K mg base (C.wth p) T lv where
  fns := fun x e h l => (F.fns x e h l).pin
  cls := fun x e h l => let ⟨m, ms, e1, q⟩ := F.cls x e h l; ⟨m, ms, e1, q.pin⟩
  mts := fun m e h1 h2 l => let ⟨a, b⟩ := F.mts m e h1 h2 l; ⟨a.pin, b.pin⟩
  fnd := F.fnd
  att := fun h c hc => (F.att h c hc).pin
  isi := fun c hc => (F.isi c hc).pin
  ty := fun x y h => let ⟨cv, u, h1, h2, h3, h4⟩ := (F.ty x y h).ex; ⟨⟨cv, u, h1.pin, h2, h3, h4⟩, (F.ty x y h).nd⟩
  blt := F.blt
  xc := fun c hc => (F.xc c hc).pin
  xi := fun x k h => (F.xi x k h).pin
theorem spX_eq : spX (C.wth p) = spX C := by
  funext c fs fm vs H Q E
  simp only [spX, val_eq, xf_eq]
  rfl
theorem XmF.pin {c : Nat} (F : XmF C c) : XmF (C.wth p) c := ⟨F.ox, F.no⟩
theorem MxF.pin {x : Str} {c : Nat} {fs : List Nat} {fm : List Bool} (F : MxF P w K mg base C x c fs fm) : MxF P w K mg base (C.wth p) x c fs fm := ⟨F.gm, F.nd, F.lt, F.M.pin, F.own, by rw [spX_eq]; exact F.ini⟩
theorem ROk.pin (F : ROk P w K mg base C T) : ROk P w K mg base (C.wth p) T := ⟨fun x e h => (F.rx x e h).pin, fun x k h => let ⟨hv, a, b, c⟩ := F.xk x k h; ⟨hv, a, b, c⟩⟩
end
end
end MpS

/-! MpSt6: try. -/
namespace MpS
open PySem PySem.Spec PyProof.Rows L2

theorem noEx_at {G : List Md} (h : noEx G = true) (k : Nat) : G[k]? ≠ some .ex := fun e => by
  have := List.all_eq_true.mp h _ (List.mem_of_getElem? e)
  simp at this
section
variable {C : Cfg} {G G' G1 G2 GX : List Md} {F0 Fz Fz' Fz1 : Addr → Prop} {Hr H H' H1 : Hp} {env : List Mp.D} {σ : L2.St} {As : Nat → List Addr} {sf : Mp.Sf} {W : WX}
variable {X : Cx} {pos : Pos} {rt : Nat} {L : Lx} {D : Ends}
/-- the frame, what is at hand another -/
theorem SlotOk.wth {u : Cur} {m : Md} {d : Mp.D} {o : Option V} {A : List Addr} (hp : u.pin = C.cur.pin) (hm : m ≠ .ex) : SlotOk (C.wth u) Fz Hr H m d o A ↔ SlotOk C Fz Hr H m d o A := by
  have e : (C.wth u).cur.pin = C.cur.pin := hp
  cases m <;> first | exact absurd rfl hm | simp only [SlotOk, val_eq, rd_eq, ow_eq, e]
theorem BI.wth {u : Cur} (hp : u.pin = C.cur.pin) (hn : noEx G = true) (b : BI C G F0 Fz Hr env σ H As) : BI (C.wth u) G F0 Fz Hr env σ H As :=
  ⟨b.l1, b.l2, fun i m d o h1 h2 h3 => (SlotOk.wth hp (fun z => noEx_at hn i (by rw [h1, z]))).mpr (b.slot i m d o h1 h2 h3), b.far, b.nd, b.dj, b.own, b.al, b.ext⟩
theorem BI.unwth {u : Cur} (hp : u.pin = C.cur.pin) (hn : noEx G = true) (b : BI (C.wth u) G F0 Fz Hr env σ H As) : BI C G F0 Fz Hr env σ H As :=
  ⟨b.l1, b.l2, fun i m d o h1 h2 h3 => (SlotOk.wth hp (fun z => noEx_at hn i (by rw [h1, z]))).mp (b.slot i m d o h1 h2 h3), b.far, b.nd, b.dj, b.own, b.al, b.ext⟩
/-- a slot is emptied -/
theorem BI.gone (b : BI C G F0 Fz Hr env σ H As) {i : Nat} {m : Md} (hi : i < σ.length) (na : ∀ k : Nat, G[k]? ≠ some (Md.al i)) (nm : ∀ k, m ≠ .al k) :
    BI C (G.set i m) F0 Fz Hr (env.set i .un) (σ.set i none) H (fun j => if j = i then [] else As j) where
  l1 := by simpa using b.l1
  l2 := by simpa using b.l2
  al := fun j k m1 h g1 g2 => by
    by_cases e : j = i
    · subst e
      have h1' : j < G.length := by rw [b.l1]; exact hi
      rw [List.getElem?_set_self h1'] at h
      cases h
      exact absurd rfl (nm k)
    · rw [List.getElem?_set_ne (Ne.symm e)] at h
      have hk : k ≠ i := fun z => na j (by rw [h, z])
      rw [List.getElem?_set_ne (Ne.symm hk)] at g1
      have := b.al j k m1 h g1 g2
      unfold AlOk at this ⊢
      rw [List.getElem?_set_ne (Ne.symm e), List.getElem?_set_ne (Ne.symm e), List.getElem?_set_ne (Ne.symm hk), List.getElem?_set_ne (Ne.symm hk)]
      exact this
  slot := fun j m' d' o' h1 h2 h3 => by
    by_cases e : j = i
    · subst e
      have h2' : j < env.length := by rw [b.l2]; exact hi
      rw [List.getElem?_set_self h2'] at h2
      cases h2
      simp only [if_true]
      exact .inl ⟨rfl, rfl⟩
    · rw [List.getElem?_set_ne (Ne.symm e)] at h1 h2 h3
      rw [if_neg e]
      exact b.slot j m' d' o' h1 h2 h3
  far := fun j hj' => by
    rw [List.length_set] at hj'
    show (if j = i then [] else As j) = []
    rw [if_neg (by omega)]
    exact b.far j hj'
  nd := fun j => by
    show (if j = i then [] else As j).Nodup
    split
    · exact List.nodup_nil
    · exact b.nd j
  dj := fun j k a h1 h2 => by
    have h1 : a ∈ (if j = i then [] else As j) := h1
    have h2 : a ∈ (if k = i then [] else As k) := h2
    by_cases ej : j = i
    · rw [if_pos ej] at h1; cases h1
    · by_cases ek : k = i
      · rw [if_pos ek] at h2; cases h2
      · rw [if_neg ej] at h1
        rw [if_neg ek] at h2
        exact b.dj j k a h1 h2
  own := fun j a h => by
    have h : a ∈ (if j = i then [] else As j) := h
    split at h
    · cases h
    · exact b.own j a h
  ext := b.ext

/-! ### the except clauses -/

inductive HdsM (X : Cx) (C : Cfg) (sf : Mp.Sf) (rt : Nat) (GX G2 : List Md) : List ExceptHandler → List Mp.Hn → Prop where
  | nil : HdsM X C sf rt GX G2 [] []
  | cons {x : Str} {on : Option Str} {b₀ : Stmt} {suite : List Stmt} {np pos' : Pos} {hds : List ExceptHandler} {k i : Nat} {suite' : List Mp.S} {hs : List Mp.Hn} {G3 : List Md}
      (hc : ∃ hv, Names X x hv ∧ ∀ c, c < C.nx → PySem.W.exmOne X.K (.ref (C.xad c)) hv = some (Mp.hitX k c))
      (hn : match on with | none => GX.length ≤ i ∧ G3.length ≤ i | some n => i < GX.length ∧ X.N[i]? = some n ∧ X.env.kindOf n = some .local)
      (ne : noEx GX = true) (lo : lowG GX (killA i GX) = true) (na : noAl (killA i GX) i = true)
      (hsu : ∀ (a : Addr) (oe : Obj) (cls : Value) (d : Option Addr) (pn : List (Addr × Obj)), Zc cls d oe → (∃ vs, oe.data = .fields vs) → PSs (X.suite a ((a, oe) :: pn)) (b₀ :: suite) (tSs (C.wth ⟨C.cur.pin, a, cls, d⟩) sf W0 rt ⟨none, none⟩ ((killA i GX).set i .ex) G3 suite'))
      (na3 : noAl G3 i = true) (ne3 : noEx (G3.set i (.ow 9)) = true) (l3 : lowG (G3.set i (.ow 9)) G2 = true) (r : HdsM X C sf rt GX G2 hds hs) :
      HdsM X C sf rt GX G2 (.ExceptHandler (some (.Name x np)) on (b₀ :: suite) pos' :: hds) (.mk k i suite' :: hs)
theorem noEx_kill {i : Nat} (h : noEx G = true) : noEx (killA i G) = true := by
  unfold noEx killA
  rw [List.all_map]
  refine List.all_eq_true.mpr fun m hm => ?_
  have := List.all_eq_true.mp h m hm
  show (!((if m = Md.al i then Md.jk else m) == .ex)) = true
  split
  · rfl
  · exact this
theorem hds_go {hds : List ExceptHandler} {hs : List Mp.Hn} (hh : HdsM X C sf rt GX G2 hds hs) (hok : okL L GX = true) : ∃ l : List TH, HdsT X hds l ∧
    ∀ (D : Ends) (F0 Fz Fz1 : Addr → Prop) (Hr H H1 : Hp) (σ : L2.St) (As : Nat → List Addr) (d : Mp.D) (e : List Mp.D), OutW C W D F0 Hr rt L G2 Fz H (Mp.exech hs sf d e) → Evo Fz H Fz1 H1 → BI C GX F0 Fz1 Hr e σ H1 As → XW C (fun cls dx H2 => wTri X.K W D l cls dx σ H2) Fz1 H1 d := by
  induction hh with
  | nil =>
    refine ⟨[], .nil, fun D F0 Fz Fz1 Hr H H1 σ As d e w ev b => ?_⟩
    have w : ExW C W F0 Hr L Fz H d e := w
    have w1 : ExW C W F0 Hr L Fz1 H1 d e := OutW.mono (o := .ex d e) (D := D) (rt := rt) (G' := G2) ev w
    exact ExW.at hok b w1
  | @cons x on b₀ suite np pos' hds k i suite' hs G3 hc hn ne lo na hsu na3 ne3 l3 r ih =>
    obtain ⟨l, hl, go⟩ := ih
    obtain ⟨hv, hnm, hex⟩ := hc
    refine ⟨⟨hv, on.map fun _ => i, fun a cls d => tSs (C.wth ⟨C.cur.pin, a, cls, d⟩) sf W0 rt ⟨none, none⟩ ((killA i GX).set i .ex) G3 suite'⟩ :: l, .cons hnm ?_ hsu hl, fun D F0 Fz Fz1 Hr H H1 σ As d e w ev b cls dx H2 Fz2 e2 xr => ?_⟩
    · cases on with
      | none => exact True.intro
      | some n => exact hn.2
    · have w : OutW C W D F0 Hr rt L G2 Fz H (match Mp.exec1 (.mk k i suite') sf d e with | some o => o | none => Mp.exech hs sf d e) := w
      obtain ⟨c, fs, vs, rfl, hlt, rfl⟩ : ∃ c fs vs, d = .ins c fs vs ∧ c < C.nx ∧ cls = .ref (C.xad c) := by
        cases d with
        | ins c fs vs => exact ⟨c, fs, vs, rfl, xr.1, xr.2.1⟩
        | _ => exact (show False from xr).elim
      have e1 : Mp.exec1 (.mk k i suite') sf (.ins c fs vs) e = if Mp.hitX k c = true then some (match Mp.execs suite' sf (e.set i (.ins c fs vs)) with | .nx e => .nx (e.set i .un) | .rt v e => .rt v e | _ => .bad) else none := by
        show (match Mp.R.ok (Mp.D.bl (Mp.hitX k c)) with | .ok (.bl true) => _ | .ok (.bl false) => _ | _ => _) = _
        cases Mp.hitX k c <;> rfl
      rw [e1] at w
      refine ⟨Mp.hitX k c, hex c hlt, fun hy a ha => ?_, fun hno => ?_⟩
      · rw [if_pos hy] at w
        have w : OutW C W D F0 Hr rt L G2 Fz H (match Mp.execs suite' sf (e.set i (.ins c fs vs)) with | .nx e => .nx (e.set i .un) | .rt v e => .rt v e | _ => .bad) := w
        have ev2 : Evo Fz H Fz2 H2 := ev.trans (.of e2)
        obtain ⟨Fz3, As3, b3, ev3⟩ := (b.grow e2).low' lo
        have b4 := b3.wth (u := ⟨C.cur.pin, a, .ref (C.xad c), dx⟩) rfl (noEx_kill ne)
        have ev4 : Evo Fz H Fz3 H2 := ev2.trans ev3
        -- the suite's end
        have fin : ∀ {σ' : L2.St} {env' : List Mp.D} {H' : Hp} {Fz' : Addr → Prop} {As' : Nat → List Addr}, OutW C W D F0 Hr rt L G2 Fz H (.nx (env'.set i .un)) → Evo Fz3 H2 Fz' H' → BI (C.wth ⟨C.cur.pin, a, .ref (C.xad c), dx⟩) G3 F0 Fz' Hr env' σ' H' As' → (dnE (on.map fun _ => i) D).nx σ' H' := fun {σ' env' H' Fz' As'} w ev b' => by
          have hlen : G3.length = σ'.length := b'.l1
          cases on with
          | none =>
            -- no slot
            have b5 : BI (C.wth ⟨C.cur.pin, a, .ref (C.xad c), dx⟩) (G3.set i (.ow 9)) F0 Fz' Hr (env'.set i .un) σ' H' As' := by
              obtain ⟨_, h4⟩ := hn
              rw [List.set_eq_of_length_le h4, List.set_eq_of_length_le (by rw [b'.l2]; omega)]
              exact b'
            obtain ⟨Fz6, As6, b6, ev6⟩ := (BI.unwth (C := C) (u := ⟨C.cur.pin, a, .ref (C.xad c), dx⟩) rfl ne3 b5).low' l3
            exact w σ' H' Fz6 As6 (ev4.trans (ev.trans ev6)) b6
          | some n =>
            by_cases hi : i < σ'.length
            · have b5 := b'.gone (m := .ow 9) hi (fun k => noAl_at na3) (fun k z => by cases z)
              obtain ⟨Fz6, As6, b6, ev6⟩ := (BI.unwth (C := C) (u := ⟨C.cur.pin, a, .ref (C.xad c), dx⟩) rfl ne3 b5).low' l3
              exact w (σ'.set i none) H' Fz6 As6 (ev4.trans (ev.trans ev6)) b6
            · have b5 : BI (C.wth ⟨C.cur.pin, a, .ref (C.xad c), dx⟩) (G3.set i (.ow 9)) F0 Fz' Hr (env'.set i .un) (σ'.set i none) H' As' := by
                rw [List.set_eq_of_length_le (by omega), List.set_eq_of_length_le (by rw [b'.l2]; omega), List.set_eq_of_length_le (by omega)]
                exact b'
              obtain ⟨Fz6, As6, b6, ev6⟩ := (BI.unwth (C := C) (u := ⟨C.cur.pin, a, .ref (C.xad c), dx⟩) rfl ne3 b5).low' l3
              exact w (σ'.set i none) H' Fz6 As6 (ev4.trans (ev.trans ev6)) b6
        -- the suite's start
        have st : ∃ As5, BI (C.wth ⟨C.cur.pin, a, .ref (C.xad c), dx⟩) ((killA i GX).set i .ex) F0 Fz3 Hr (e.set i (.ins c fs vs)) (snE (on.map fun _ => i) a σ) H2 As5 := by
          have lk : (killA i GX).length = GX.length := by unfold killA; simp
          cases on with
          | none =>
            refine ⟨As3, ?_⟩
            obtain ⟨hn, _⟩ := hn
            rw [List.set_eq_of_length_le (by omega), List.set_eq_of_length_le (by rw [b.l2, ← b.l1]; omega)]
            exact b4
          | some n =>
            obtain ⟨hi, _⟩ := hn
            have hi : i < GX.length := hi
            refine ⟨_, b4.put (A := []) (m := .ex) (d := .ins c fs vs) (v := .ref a) (by rw [← b.l1]; exact hi) ?_ List.nodup_nil (fun a ha => by cases ha) (fun j a _ ha => by cases ha) (fun k _ => noAl_at na) (fun k z => by cases z)⟩
            refine .inr ⟨_, rfl, rfl, ?_, rfl⟩
            rw [xRep_eq]
            exact xr.keep ev3.sub (.of (Same.refl H2))
        obtain ⟨As5, b5⟩ := st
        refine ⟨F0, Fz3, Hr, _, As5, b5, ?_⟩
        show OutW (C.wth ⟨C.cur.pin, a, .ref (C.xad c), dx⟩) W0 (dnE (on.map fun _ => i) D) F0 Hr rt ⟨none, none⟩ G3 Fz3 H2 (Mp.execs suite' sf (e.set i (.ins c fs vs)))
        cases hx : Mp.execs suite' sf (e.set i (.ins c fs vs)) with
        | nx e5 =>
          rw [hx] at w
          exact fun σ' H' Fz' As' ev b' => fin w ev b'
        | rt v e5 =>
          rw [hx] at w
          intro u H' Fz' A ex r n f
          rw [rs_eq] at r
          have w : ∀ v' H' Fz' A, Ext F0 Hr Fz' H' → Rs C (.ow rt) Fz' H' v v' A → A.Nodup → (∀ a ∈ A, Hr a = none ∧ ¬ Fz' a) → D.rt v' H' := w
          have := w u H' Fz' A ex r n f
          cases on <;> exact this
        | br e5 => rw [hx] at w; exact (show False from w).elim
        | ct e5 => rw [hx] at w; exact (show False from w).elim
        | ex d e5 => rw [hx] at w; exact (show False from w).elim
        | bad => rw [hx] at w; exact (show False from w).elim
      · rw [if_neg (by rw [hno]; decide)] at w
        exact go D F0 Fz Fz1 Hr H H1 σ As _ e w ev b _ _ H2 Fz2 e2 xr
theorem s_tri {body : List Stmt} {body' : List Mp.S} {h₀ : ExceptHandler} {hds : List ExceptHandler} {hs : List Mp.Hn} (hst : X.stack = X.env :: X.outer) (hf : X.env.frame = some X.env.locals) (hN : X.N.Nodup) (tk : Takes X W) (hok : okL L GX = true)
    (hb : ∀ (W' : WX) (pn : List (Addr × Obj)) (xe : Value → Shared → Prop), Takes (X.tr pn xe) W' → PassesOwn (model X.prog X.w) X.A X.env xe → PSs (X.tr pn xe) body (tSs C sf W' rt { L with tr := some GX } G G1 body'))
    (hh : HdsM X C sf rt GX G2 (h₀ :: hds) hs) (l1 : lowG G1 G2 = true) : PS X (.Try body (h₀ :: hds) [] [] pos) (tSt C sf W rt L G G2 (.tri body' hs)) := by
  obtain ⟨l, hl, go⟩ := hds_go (L := L) (W := W) hh hok
  refine PS.imp (ps_tri (tb := fun W' => tSs C sf W' rt { L with tr := some GX } G G1 body') hst hf hN tk hb hl) fun D σ H ⟨F0, Fz, Hr, env, As, b, w⟩ => ⟨F0, Fz, Hr, env, As, b, ?_⟩
  have w : OutW C W D F0 Hr rt L G2 Fz H (match Mp.execs body' sf env with | .ex d e => Mp.exech hs sf d e | o => o) := w
  cases hx : Mp.execs body' sf env with
  | nx e => rw [hx] at w; exact OutW.low (o := .nx e) l1 w
  | br e => rw [hx] at w; exact w
  | ct e => rw [hx] at w; exact w
  | rt d e => rw [hx] at w; exact w
  | bad => rw [hx] at w; exact w
  | ex d e =>
    rw [hx] at w
    intro σ' H' Fz' As' GX' hg ev b'
    obtain rfl := hg GX rfl
    exact go D F0 Fz Fz' Hr H H' σ' As' d e w ev b'
end
end MpS

/-! MpPop: an item goes from one list to another. -/
namespace MpS
open PySem PySem.Spec PyProof.Rows L2

theorem type_list_pop : typeOf (.builtin "list.pop") = pure (.type "method_descriptor") := by kernel_rfl
theorem seqIx {n : Nat} {i : Int} {k : Nat} (h : Mp.ixL n i = some k) : seqIndex? i n = some k ∧ -(n : Int) ≤ i ∧ i < n ∧ k < n := by
  unfold Mp.ixL at h
  unfold seqIndex?
  split at h
  · rename_i h0
    split at h
    · rename_i h1
      cases h
      have h2 : ¬ i < 0 := by omega
      simp only [h2, if_false]
      refine ⟨?_, by omega, by omega, by omega⟩
      rw [if_pos (by simp; omega)]
    · cases h
  · rename_i h0
    split at h
    · rename_i h1
      cases h
      have h2 : i < 0 := by omega
      simp only [h2, if_true]
      refine ⟨?_, by omega, by omega, by omega⟩
      rw [if_pos (by simp; omega)]
    · cases h
def rPopI : V → List V → Hp → VK → Prop := fun x vs H Q => ∃ l xs i k y, x = .ref l ∧ vs = [.int i] ∧ H l = some (.lst xs) ∧ Mp.ixL xs.length i = some k ∧ xs[k]? = some y ∧ Q y (upd H l (.lst (xs.eraseIdx k)))
theorem mt_popI {X : Cx} : MtM X "list.pop" rPopI := by
  intro pins s σ H x vs v us Q I rx rv h
  obtain ⟨l, xs, i, k, y, rfl, rfl, hH, hk, hy, q⟩ := h
  obtain ⟨h1, h2, h3, _⟩ := seqIx hk
  have hz := (I.lstM hH).1
  rw [sizeLine_eq] at hz
  exact mt_popAt pins s σ H _ _ v us Q I rx rv ⟨l, xs, i, k, y, rfl, rfl, hH, by omega, by omega, h1, hy, q⟩
section
variable {C : Cfg} {G G' G1 : List Md} {F0 Fz Fz' : Addr → Prop} {Hr H H' : Hp} {env : List Mp.D} {σ : L2.St} {As : Nat → List Addr} {sf : Mp.Sf} {W : WX}
variable {X : Cx} {pos : Pos} {D : Ends} {rt : Nat} {L : Lx}
theorem owl_val : ∀ {ds : List Mp.D} {us : List V} {A : List Addr}, OwL (Ow C Fz H 0) ds us A → ValL C Fz H ds us ∧ A = []
  | [], _, _, h => by obtain ⟨rfl, rfl⟩ := h; exact ⟨by simp only [ValL], rfl⟩
  | d :: ds, _, _, h => by
    obtain ⟨u, us', B, B', rfl, rfl, ⟨h1, rfl⟩, h2⟩ := h
    obtain ⟨v1, rfl⟩ := owl_val h2
    exact ⟨by simp only [ValL]; exact ⟨u, us', rfl, h1, v1⟩, rfl⟩
theorem val_owl : ∀ {ds : List Mp.D} {us : List V}, ValL C Fz H ds us → OwL (Ow C Fz H 0) ds us []
  | [], _, h => by simp only [ValL] at h; exact ⟨h, rfl⟩
  | d :: ds, us, h => by
    simp only [ValL] at h
    obtain ⟨u, us', rfl, h1, h2⟩ := h
    exact ⟨u, us', [], [], rfl, rfl, ⟨h1, rfl⟩, val_owl h2⟩
theorem valL_erase {ds : List Mp.D} {us : List V} (h : ValL C Fz H ds us) (k : Nat) : ValL C Fz H (ds.eraseIdx k) (us.eraseIdx k) := by
  rw [valL_iff] at h ⊢
  induction h generalizing k with
  | nil => exact .nil
  | cons a t ih => cases k with
    | zero => exact t
    | succ k => exact .cons a (ih k)
theorem valL_snoc {ds : List Mp.D} {us : List V} {d : Mp.D} {u : V} (h : ValL C Fz H ds us) (hd : Val C Fz H d u) : ValL C Fz H (ds ++ [d]) (us ++ [u]) := by
  rw [valL_iff] at h ⊢
  induction h with
  | nil => exact .cons hd .nil
  | cons a t ih => exact .cons a ih
/-- a slot's list, owned, is written -/
theorem BI.lset (b : BI C G F0 Fz Hr env σ H As) {i : Nat} {xs ys : List Mp.D} {p : Addr} {us vs : List V} (hm : G[i]? = some (.ow 1)) (hv : σ[i]? = some (some (.ref p))) (hp : H p = some (.lst us)) (hA : As i = [p]) (hy : ValL C Fz H ys vs) (na : noAl G i = true) :
    BI C G F0 Fz Hr (env.set i (.lst ys)) σ (upd H p (.lst vs)) (fun j => if j = i then [p] else As j) ∧ Evo Fz H Fz (upd H p (.lst vs)) := by
  have hpi : p ∈ As i := by rw [hA]; exact List.mem_cons_self
  have nF := (b.own i p hpi).1
  have kp : Keep Fz H (upd H p (.lst vs)) := keep_upd hp True.intro nF
  have ne : ∀ a, a ≠ p → ∀ o, H a = some o → upd H p (.lst vs) a = some o := fun a hn o h => by rw [upd_ne hn]; exact h
  refine ⟨b.write hm hv (fun _ h => h) kp (fun j a hj ha => ne a fun z => ?_) (fun a o h => ?_) (fun a h => ?_) (.inr ⟨_, rfl, p, vs, [], rfl, upd_same, rfl, val_owl (ValL.keep (fun _ h => h) kp _ _ hy)⟩) (by simp) (fun a ha => .inl (by rw [hA]; exact ha)) (fun a ha => .inl ha) rfl (fun k hk => absurd hk (noAl_at na)), fun _ h => h, kp⟩
  · subst z
    exact hj (b.dj j i a ha hpi)
  · refine ne a (fun z => ?_) o (b.ext.same a o h)
    subst z
    rw [(b.own i a hpi).2] at h
    cases h
  · obtain ⟨o, e⟩ := b.ext.trk a h
    by_cases z : a = p
    · rw [z]; exact ⟨_, upd_same⟩
    · exact ⟨o, ne a z o e⟩
theorem BI.lget (b : BI C G F0 Fz Hr env σ H As) {i : Nat} {xs : List Mp.D} (hm : G[i]? = some (.ow 1)) (he : env[i]? = some (.lst xs)) : ∃ p us, σ[i]? = some (some (.ref p)) ∧ H p = some (.lst us) ∧ As i = [p] ∧ ValL C Fz H xs us := by
  obtain ⟨v, hv, q⟩ := b.look hm he (by simp)
  obtain ⟨p, us, B, rfl, hp, hA, l⟩ := q
  obtain ⟨l2, rfl⟩ := owl_val l
  exact ⟨p, us, hv, hp, hA, l2⟩
theorem s_apop {i j : Nat} {x y : Str} {k : Expr} {k' : Mp.E} {p1 ap p2 ap2 cpos pos2 : Pos} (hx : okL L G1 = true) (lo : lowG G G1 = true) (hmi : G1[i]? = some (.ow 1)) (hmj : G1[j]? = some (.ow 1)) (hne : i ≠ j) (nai : noAl G1 i = true) (naj : noAl G1 j = true)
    (hN : X.N[i]? = some x) (hv : Vis X.env.scope x) (hd : (x == ("__debug__" : Str)) = false) (hcd : (x == ("__classdict__" : Str)) = false) (hN2 : X.N[j]? = some y) (hv2 : Vis X.env.scope y) (hd2 : (y == ("__debug__" : Str)) = false) (hcd2 : (y == ("__classdict__" : Str)) = false)
    (hl1 : (ap.endLine == cpos.line) = true) (hl2 : (ap2.endLine == pos2.line) = true) (hns : NoSt k) (hk : PE X k (tE C G1 sf W (.rd 9) k'))
    (hsw : swapsWith (.Call (.Attribute (.Name x p1) "append" ap) [.Call (.Attribute (.Name y p2) "pop" ap2) [k] [] pos2] [] cpos) none pos.line X.env = pure false) :
    PS X (.Expr (.Call (.Attribute (.Name x p1) "append" ap) [.Call (.Attribute (.Name y p2) "pop" ap2) [k] [] pos2] [] cpos) pos) (tSt C sf W rt L G G1 (.apop i j k')) := by
  have pop := pe_bm (X := X) PySem.F.plainAttrs_list PySem.F.slot_list_pop type_list_pop mt_popI (o := .Name y p2) (pe_var hN2 hv2 hd2 hcd2) (pa_cons hk pa_nil (hns [] X.env)) (apos := ap2) (cpos := pos2) rfl (nost_few (by simpa using hns) (by simp)) hl2 (hns [] X.env) rfl
  have pe := pe_bm (X := X) PySem.F.plainAttrs_list PySem.F.slot_list_append type_list_append (mt_append) (o := .Name x p1) (pe_var hN hv hd hcd) (pa_cons pop pa_nil rfl) (apos := ap) (cpos := cpos) rfl (nost_few (by simp only [List.mem_cons, List.not_mem_nil, or_false, forall_eq]; exact fun _ _ => rfl) (by simp)) hl1 rfl rfl
  refine PS.imp (ps_expr pe hsw) fun D σ H q => ?_
  obtain ⟨F0, Fz, Hr, env, As, b, w⟩ := tSt_low lo q
  have w : OutW C W D F0 Hr rt L G1 Fz H ((Mp.getE env i).toO env fun d => (Mp.getE env j).toO env fun c => match d, c with
    | .lst xs, .lst ys => (Mp.ev k' sf env).toO env fun z => match Mp.popL ys z with
      | some (y, ys') => if xs.length < Mp.LIM then .nx ((env.set j (.lst ys')).set i (.lst (xs ++ [y]))) else .bad
      | none => .bad
    | _, _ => .bad) := w
  cases h1 : Mp.getE env i with
  | bad => rw [h1] at w; exact (show False from w).elim
  | exc z => exact absurd h1 getE_exc
  | ok d =>
  cases h2 : Mp.getE env j with
  | bad => rw [h1, h2] at w; exact (show False from w).elim
  | exc z => exact absurd h2 getE_exc
  | ok c =>
  rw [h1, h2] at w
  obtain ⟨he1, _⟩ := getE_ok h1
  obtain ⟨he2, _⟩ := getE_ok h2
  obtain ⟨xs, rfl⟩ : ∃ xs, d = .lst xs := by
    cases d with
    | lst xs => exact ⟨xs, rfl⟩
    | _ => exact (show False from w).elim
  obtain ⟨ys, rfl⟩ : ∃ ys, c = .lst ys := by
    cases c with
    | lst ys => exact ⟨ys, rfl⟩
    | _ => exact (show False from w).elim
  obtain ⟨p, us, hs1, hp1, _, _⟩ := b.lget hmi he1
  obtain ⟨q, vs, hs2, hq1, _, _⟩ := b.lget hmj he2
  have w : OutW C W D F0 Hr rt L G1 Fz H ((Mp.ev k' sf env).toO env fun z => match Mp.popL ys z with
      | some (y, ys') => if xs.length < Mp.LIM then .nx ((env.set j (.lst ys')).set i (.lst (xs ++ [y]))) else .bad
      | none => .bad) := w
  refine ⟨.ref p, hs1, .inl ⟨rfl, us, SqL.of hp1⟩, .ref q, hs2, .inl ⟨rfl, vs, SqL.of hq1⟩, F0, Fz, Hr, env, As, b, ?_⟩
  refine (OutW.toO hx b w).imp fun z _ w1 u H1 Fz1 A e1 r n f => ?_
  have b1 := b.grow e1
  replace w1 := OutW.mono (.of e1) w1
  cases hpl : Mp.popL ys z with
  | none => rw [hpl] at w1; exact (show False from w1).elim
  | some yy =>
    obtain ⟨y0, ys'⟩ := yy
    rw [hpl] at w1
    have w1 : OutW C W D F0 Hr rt L G1 Fz1 H1 (if xs.length < Mp.LIM then .nx ((env.set j (.lst ys')).set i (.lst (xs ++ [y0]))) else .bad) := w1
    by_cases hlen : xs.length < Mp.LIM
    · rw [if_pos hlen] at w1
      obtain ⟨zi, rfl⟩ : ∃ zi, z = .int zi := by
        cases z with
        | int zi => exact ⟨zi, rfl⟩
        | _ => simp [Mp.popL] at hpl
      simp only [Mp.popL] at hpl
      cases hix : Mp.ixL ys.length zi with
      | none => rw [hix] at hpl; cases hpl
      | some kk =>
        rw [hix] at hpl
        simp only at hpl
        cases hyk : ys[kk]? with
        | none => rw [hyk] at hpl; cases hpl
        | some y1 =>
          rw [hyk] at hpl
          simp only [Option.some.injEq, Prod.mk.injEq] at hpl
          obtain ⟨rfl, rfl⟩ := hpl
          obtain rfl := Rd.int r.1
          obtain ⟨p', us1, g1, hp2, hAi, l1⟩ := b1.lget hmi he1
          rw [hs1] at g1
          cases g1
          obtain ⟨q', vs1, g2, hq2, hAj, l2⟩ := b1.lget hmj he2
          rw [hs2] at g2
          cases g2
          have hvl : ys.length = vs1.length := l2.length
          have hkl : kk < vs1.length := by have := ixL_lt hix; omega
          have hpq : p ≠ q := fun z => hne (b1.dj i j p (by rw [hAi]; exact List.mem_cons_self) (by rw [hAj, z]; exact List.mem_cons_self))
          have hv1 : vs1[kk]? = some vs1[kk] := List.getElem?_eq_getElem hkl
          have vy : Val C Fz1 H1 y1 vs1[kk] := by
            have h9 := valL_iff.mp l2
            obtain ⟨u9, e9, v9⟩ := pget h9 hyk
            rw [hv1] at e9
            cases e9
            exact v9
          obtain ⟨b2, ev2⟩ := b1.lset (ys := ys.eraseIdx kk) (vs := vs1.eraseIdx kk) (xs := ys) hmj hs2 hq2 hAj (valL_erase l2 kk) naj
          have he1' : (env.set j (.lst (ys.eraseIdx kk)))[i]? = some (.lst xs) := by rw [List.getElem?_set_ne (Ne.symm hne)]; exact he1
          obtain ⟨p3, us3, g3, hp3, hAi3, l3⟩ := b2.lget hmi he1'
          rw [hs1] at g3
          cases g3
          obtain ⟨b3, ev3⟩ := b2.lset (xs := xs) (ys := xs ++ [y1]) (vs := us3 ++ [vs1[kk]]) hmi hs1 hp3 hAi3 (valL_snoc l3 (Val.keep (fun _ h => h) ev2.keep _ _ vy)) nai
          refine ⟨q, vs1, zi, kk, vs1[kk], rfl, rfl, hq2, by rw [← hvl]; exact hix, hv1, p, us3, vs1[kk], rfl, rfl, hp3, ?_, ?_⟩
          · rw [sz, ← l3.length]; exact hlen
          · exact w1 _ _ _ _ (ev2.trans ev3) b3
    · rw [if_neg hlen] at w1
      exact (show False from w1).elim
end
end MpS

/-! MpX5: every statement that compS reads and chkS passes. -/
namespace MpS
open PySem PySem.Spec PyProof.Rows L2

/-- a def's own context -/
structure SOk (X : Cx) (C : Cfg) (t : Tc) (sc : Scope) (sf : Mp.Sf) (sg : Sg) (W : WX) : Prop where
  o : XOk X C t sc sf sg W
  R : ROk X.prog X.w X.K X.mg X.base C t.T
  hsc : X.env.scope = sc
  kind : sc.kind = .function
  fn : ∀ x, X.fn x = true
  own : t.hot = false → PassesOwn (model X.prog X.w) X.A X.env X.xe
  tk : Takes X W
  stk : X.stack = X.env :: X.outer
  frm : X.env.frame = some X.env.locals
/-- a try's body -/
theorem SOk.tr {X : Cx} {C : Cfg} {t : Tc} {sc : Scope} {sf : Mp.Sf} {sg : Sg} {W W' : WX} (s : SOk X C t sc sf sg W) {pn : List (Addr × Obj)} {xe : Value → Shared → Prop} (tk : Takes (X.tr pn xe) W') (own : PassesOwn (model X.prog X.w) X.A X.env xe) (hh : t.hot = false) : SOk (X.tr pn xe) C t sc sf sg W' where
  o := { hK := s.o.hK, FN := s.o.FN, hN := s.o.hN, nd := s.o.nd, calm := s.o.calm, un := s.o.un, exs := fun z => (by rw [hh] at z; cases z), scr := s.o.scr, nn := s.o.nn, room := s.o.room, pa := fun σ => passAt tk σ, T := s.o.T, slf := s.o.slf }
  R := s.R
  hsc := s.hsc
  kind := s.kind
  fn := s.fn
  own := fun _ => own
  tk := tk
  stk := s.stk
  frm := s.frm
theorem takes0 {X : Cx} : Takes X W0 := fun _ _ ⟨_, _, _, _, _, _, _, _, _, _, _, _, _, _, _, _, w⟩ => w.elim
/-- an except suite -/
theorem SOk.suite {X : Cx} {C : Cfg} {t : Tc} {sc : Scope} {sf : Mp.Sf} {sg : Sg} {W : WX} (s : SOk X C t sc sf sg W) {a : Addr} {oe : Obj} {cls : Value} {d : Option Addr} {pn : List (Addr × Obj)} (hz : Zc cls d oe) (hv : ∃ vs, oe.data = .fields vs) :
    SOk (X.suite a ((a, oe) :: pn)) (C.wth ⟨C.cur.pin, a, cls, d⟩) { t with hot := true } sc sf sg W0 where
  o := { hK := s.o.hK, FN := s.o.FN, hN := s.o.hN, nd := s.o.nd, calm := fun z => (by cases z), un := s.o.un, exs := fun _ => ⟨X, oe, pn, rfl, hz, hv⟩, scr := s.o.scr, nn := s.o.nn, room := fun z => (by cases z), pa := fun σ => passAt takes0 σ, T := s.o.T.pin, slf := fun x _ z => (by cases z) }
  R := s.R.pin
  hsc := s.hsc
  kind := s.kind
  fn := s.fn
  own := fun z => (by cases z)
  tk := takes0
  stk := s.stk
  frm := s.frm
theorem Bool.not_t {b : Bool} (h : ¬ b = true) : b = false := by cases b <;> first | rfl | exact absurd rfl h
section
variable {X : Cx} {C : Cfg} {t : Tc} {sc : Scope} {G G' : List Md} {sf : Mp.Sf} {sg : Sg} {W : WX} {n : Nat} {kd : Kd} {L : Lx} {ini : Bool}
theorem sw_plain {e : Expr} {tg : Option Expr} {l : Nat} {env : Env} (h : isComp e = false) : swapsWith e tg l env = pure false := by
  cases e <;> first | (cases h; done) | rfl
theorem sw_sub {e o : Expr} {l : Nat} {env : Env} (h : ∀ x p, o ≠ .Name x p) : swapsWith e (some o) l env = pure false := by
  cases e <;> first | rfl | (cases o <;> first | rfl | exact absurd rfl (h _ _))
theorem sw_lc {elt : Expr} {gs : List Comprehension} {csc : Scope} {pos py : Pos} {y : Str} {l : Nat} {env : Env} : ∃ b : Bool, swapsWith (.ListComp elt gs csc pos) (some (.Name y py)) l env = pure b ∧ (b = true → env.scope.names.lookup y = some .local) := by
  refine ⟨_, rfl, fun h => ?_⟩
  simp only [Bool.and_eq_true] at h
  have := h.1.1.2
  simpa [Env.kindOf] using this
theorem SOk.good (s : SOk X C t sc sf sg W) : ∀ e e', comp t n sc e = some e' → Good X C G sf sg W e e' := e_all n X sc G W s.o
theorem SOk.loc (s : SOk X C t sc sf sg W) {x : Str} {i : Nat} (h : slotLoc t sc x = some i) : X.N[i]? = some x ∧ Loc X.env.scope x ∧ (x == ("__debug__" : Str)) = false ∧ (x == ("__classdict__" : Str)) = false := by
  obtain ⟨h1, h2⟩ := slotLoc_at h
  refine ⟨by rw [s.o.hN]; exact h1, ?_, s.o.nn x (List.mem_of_getElem? h1)⟩
  rw [s.hsc]
  exact h2
theorem Loc.vis {sc : Scope} {x : Str} (h : Loc sc x) : Vis sc x := by
  rcases h with h | h
  · exact .inl h
  · exact .inr (.inl h)
theorem notComp {e : Expr} {e' : Mp.E} (h : comp t n sc e = some e') : isComp e = false ∨ (∃ elt gs csc pos, e = .ListComp elt gs csc pos) ∨ isDc e = true := by
  cases n with
  | zero => cases h
  | succ n => cases e <;> first | (exact .inl rfl) | (exact .inr (.inl ⟨_, _, _, _, rfl⟩)) | (exact .inr (.inr rfl)) | (cases h; done)
/-- name = any expression -/
theorem asg_any (s : SOk X C t sc sf sg W) {x : Str} {i : Nat} {p pos : Pos} {e : Expr} {e' : Mp.E} (hdc : isDc e = false) (hx : slotLoc t sc x = some i) (h : comp t n sc e = some e') (k : ck sg e' G kd = true) : PS X (.Assign [.Name x p] e pos) (tAsg (tE C G sf W kd e') (gName i)) := by
  obtain ⟨h1, h2, h3, h4⟩ := s.loc hx
  rcases notComp h with hc | ⟨elt, gs, csc, cpos, rfl⟩ | hd
  · exact ps_set s.o.nd h1 h2 ((s.good _ _ h).pe _ k) (sw_plain hc) (.inl (s.fn x))
  · obtain ⟨b, hb, hl⟩ := sw_lc (elt := elt) (gs := gs) (csc := csc) (pos := cpos) (py := p) (y := x) (l := pos.line) (env := X.env)
    cases b with
    | false => exact ps_set s.o.nd h1 h2 ((s.good _ _ h).pe _ k) hb (.inl (s.fn x))
    | true =>
      cases n with
      | zero => cases h
      | succ n =>
        have h : (if t.hot then none else compLc t (comp t n sc) (comp t n csc) sc elt gs csc) = some e' := h
        split at h
        · cases h
        rename_i hh
        exact x_lcS s.o (Bool.not_t hh) (e_all n X sc G W s.o) (fun X' sc' G' o' => e_all n X' sc' G' W0 o') h k h1 (hl rfl) hb
  · rw [hdc] at hd; cases hd
theorem s_setA (hx : okL L G = true) {x : Str} {i : Nat} {p pos : Pos} {e : Expr} {e' : Mp.E} {m : Md} {rt : Nat} (hi : i < G.length) (na : noAl G i = true) (hm : (match kd with | .rd 0 => m = .fr | .ow k => m = .ow k | _ => False)) (h : PS X (.Assign [.Name x p] e pos) (tAsg (tE C G sf W kd e') (gName i))) :
    PS X (.Assign [.Name x p] e pos) (tSt C sf W rt L G (G.set i m) (.set i e')) := by
  refine PS.imp h fun D σ H ⟨F0, Fz, Hr, env, As, b, w⟩ => ⟨F0, Fz, Hr, env, As, b, ?_⟩
  refine (OutW.toO hx b w).imp fun d _ q v H1 Fz1 A e r n f => ?_
  obtain ⟨As', b'⟩ := b.store e hi hm r n f na
  exact q _ H1 Fz1 As' (.of e) b'
theorem tryLow_ok {ok : List Md → Bool} {vs : List Nat} {G1 : List Md} (h : tryLow ok vs G = some G1) : lowG G G1 = true ∧ ok G1 = true := by
  unfold tryLow at h
  split at h
  · rename_i q
    cases h
    exact ⟨lowG_refl G, q⟩
  · generalize [capV 2 vs G, capV 1 vs G, lowV vs G] = l at h
    induction l with
    | nil => cases h
    | cons G2 l ih =>
      unfold tryG at h
      split at h
      · rename_i q
        cases h
        simpa using q
      · exact ih h
theorem pickL_ok {e : Mp.E} {G1 : List Md} : ∀ {ks : List Nat} {k : Nat}, pickL sg L e G ks = some (k, G1) → lowG G G1 = true ∧ okL L G1 = true ∧ ck sg e G1 (.ow k) = true
  | [], _, h => by cases h
  | j :: ks, k, h => by
    unfold pickL at h
    split at h
    · rename_i q
      cases h
      obtain ⟨q1, q2⟩ := tryLow_ok q
      simp only [Bool.and_eq_true] at q2
      exact ⟨q1, q2⟩
    · exact pickL_ok h
theorem pick_ok {e : Mp.E} : ∀ {ks : List Nat} {k : Nat}, pick sg e G ks = some k → ck sg e G (.ow k) = true
  | [], _, h => by cases h
  | j :: ks, k, h => by
    unfold pick at h
    split at h
    · rename_i q; cases h; exact q
    · exact pick_ok h
theorem lowG_len {G G1 : List Md} (h : lowG G G1 = true) : G1.length = G.length := (lowG_at h).1
theorem ps_low {st : Stmt} {s : Mp.S} {G1 : List Md} {rt : Nat} (hl : lowG G G1 = true) (h : PS X st (tSt C sf W rt L G1 G' s)) : PS X st (tSt C sf W rt L G G' s) := PS.imp h fun D σ H q => tSt_low hl q
theorem x_set (s : SOk X C t sc sf sg W) {x : Str} {i : Nat} {p pos : Pos} {e : Expr} {e' : Mp.E} (hdc : isDc e = false) (hx : slotLoc t sc x = some i) (h : comp t n sc e = some e') (k : chkSet sg L i e' G = some G') : PS X (.Assign [.Name x p] e pos) (tSt C sf W sg.rt L G G' (.set i e')) := by
  unfold chkSet at k
  split at k
  · cases k
  · rename_i hi
    simp only [Bool.or_eq_true, not_or, Bool.not_eq_true', Bool.not_eq_false, decide_eq_true_eq, decide_eq_false_iff_not, Classical.not_not] at hi
    obtain ⟨hi, hx0⟩ := hi
    split at k
    · rename_i j hj
      split at k
      · rename_i na
        cases k
        exact s_setA hx0 hi na rfl (asg_any s hdc hx h (pick_ok hj))
      · cases k
    · split at k
      · rename_i j G1 hG1
        split at k
        · rename_i na
          cases k
          obtain ⟨hl, hx1, hok⟩ := pickL_ok hG1
          exact ps_low hl (s_setA hx1 (by rw [lowG_len hl]; exact hi) na rfl (asg_any s hdc hx h hok))
        · cases k
      · split at k
        · rename_i G1 hG1
          split at k
          · rename_i na
            cases k
            obtain ⟨hl, hok⟩ := tryLow_ok hG1
            simp only [Bool.and_eq_true] at hok
            obtain ⟨hx1, hok⟩ := hok
            exact ps_low hl (s_setA hx1 (by rw [lowG_len hl]; exact hi) na rfl (asg_any s hdc hx h hok))
          · cases k
        · cases k
theorem swS {tg e : Expr} {l : Nat} {env : Env} : swapsWithSole [tg] e l env = swapsWith e (some tg) l env := rfl
theorem plc_of (s : SOk X C t sc sf sg W) {o : Expr} {i : Nat} {path : List Mp.E} (h : placeOf t (comp t n sc) sc o = some (i, path)) {KK : Nat} (hKK : G[i]? = some (.ow KK)) (k : ckL sg path G (.rd 9) = true) : Plc X C G sf W o i path ∧ noCall0 o = true ∧ ∀ x p, o = .Name x p ∨ True := by
  unfold placeOf at h
  split at h
  · rename_i x p
    split at h
    · obtain ⟨j, hj, e⟩ := Option.map_eq_some_iff.mp h
      cases e
      obtain ⟨h1, h2, h3, h4⟩ := s.loc hj
      exact ⟨.nm h1 (Loc.vis h2) h3 h4, rfl, fun _ _ => .inr trivial⟩
    · split at h
      · rename_i j b hj hb
        cases h
        obtain ⟨h1, h2, h3, h4⟩ := s.loc hj
        simp only [ckL, ck, Bool.and_true] at k
        split at k
        · rename_i b' e
          have := beq_iff_eq.mp k
          subst this
          exact ⟨.al h1 (Loc.vis h2) h3 h4 e hKK rfl, rfl, fun _ _ => .inr trivial⟩
        · cases k
      · cases h
  · rename_i x p kk p2
    split at h
    · rename_i j k' _ hj hk
      cases h
      obtain ⟨h1, h2, h3, h4⟩ := s.loc hj
      simp only [ckL, Bool.and_eq_true] at k
      have g := s.good (G := G) _ _ hk
      exact ⟨.at_ h1 (Loc.vis h2) h3 h4 g.shp.ix (g.pe _ k.1), rfl, fun _ _ => .inr trivial⟩
    · cases h
  · cases h
theorem na_of {i : Nat} {path : List Mp.E} (h : (noAl G i || !path.isEmpty) = true) : noAl G i = true ∨ path ≠ [] := by
  simp only [Bool.or_eq_true, Bool.not_eq_true'] at h
  rcases h with h | h
  · exact .inl h
  · exact .inr (fun e => by rw [e] at h; cases h)
theorem chkPath_ok {i j : Nat} {path : List Mp.E} (h : chkPath sg i path G = some j) : ∃ K, G[i]? = some (.ow K) ∧ path.length < K ∧ ckL sg path G (.rd 9) = true ∧ j = K - path.length - 1 := by
  unfold chkPath at h
  split at h
  · rename_i K hK
    split at h
    · rename_i hc
      simp only [Bool.and_eq_true, decide_eq_true_eq] at hc
      cases h
      exact ⟨K, hK, hc.1, hc.2, rfl⟩
    · cases h
  · cases h
theorem tryK_ok {ok : List Md → Bool} {vs : List Nat} {i : Nat} {G1 : List Md} : ∀ {js : List Nat}, tryK ok vs G i js = some G1 → lowG G G1 = true ∧ ok G1 = true
  | [], h => by cases h
  | j :: js, h => by
    unfold tryK at h
    split at h
    · split at h
      · rename_i q
        cases h
        simpa using q
      · exact tryK_ok h
    · exact tryK_ok h
theorem tryO_ok {ok : List Md → Bool} {vs : List Nat} {i : Nat} {G1 : List Md} (h : tryO ok vs G i = some G1) : lowG G G1 = true ∧ ok G1 = true := by
  unfold tryO at h
  split at h
  · rename_i q
    cases h
    exact tryLow_ok q
  · exact tryK_ok h
theorem x_asg (s : SOk X C t sc sf sg W) {tg : Expr} (hh : (∃ x p, tg = .Name x p) ∨ t.hot = false) {value : Expr} {pos : Pos} {s' : Mp.S} (h : compAsg t (comp t n sc) sc tg value = some s') (k : chkS sg ini s' L G = some G') : PS X (.Assign [tg] value pos) (tSt C sf W sg.rt L G G' s') := by
  have hu := s.o.units
  unfold compAsg at h
  split at h
  · rename_i x p
    split at h
    · rename_i y hy
      unfold compAli at h
      split at h
      · rename_i ke hke
        split at h
        · rename_i i b k' h1 h2 h3
          cases h
          obtain ⟨p2, p3, rfl⟩ : ∃ p2 p3, value = .Subscript (.Name y p2) ke p3 := by
            unfold itemOf at hke
            split at hke
            · split at hke
              · rename_i e
                cases hke
                subst e
                exact ⟨_, _, rfl⟩
              · cases hke
            · cases hke
          simp only [chkS] at k
          split at k
          · rename_i G1 hG1
            split at k
            · rename_i hc
              cases k
              simp only [Bool.and_eq_true, decide_eq_true_eq, Bool.not_eq_true', beq_eq_false_iff_ne] at hc
              obtain ⟨⟨⟨⟨c1, c2⟩, c3⟩, c4⟩, c5⟩ := hc
              obtain ⟨hl, hok⟩ := tryLow_ok hG1
              simp only [Bool.and_eq_true] at hok
              obtain ⟨hxL, hok1, hok2⟩ := hok
              simp only [ck] at hok2
              cases q : G1[b]? with
              | none => rw [q] at hok2; cases hok2
              | some m =>
                rw [q] at hok2
                obtain ⟨g1, g2, g3, g4⟩ := s.loc h1
                obtain ⟨f1, f2, f3, f4⟩ := s.loc h2
                have gk := s.good (G := G1) _ _ h3
                exact ps_low c1 (ps_low hl (s_ali hxL s.o.hK s.o.nd g1 g2 (.inl (s.fn x)) f1 (Loc.vis f2) f3 f4 gk.shp.ix (gk.pe _ hok1) q hok2 c3 c2 c5 (sw_plain rfl)))
            · cases k
          · cases k
        · cases h
      · cases h
    · split at h
      · cases h
      · rename_i hdc
        split at h
        · rename_i i e' h1 h2
          cases h
          simp only [chkS] at k
          split at k
          · rename_i hl
            exact ps_low hl (x_set s (by simpa using hdc) h1 h2 k)
          · cases k
        · cases h
  · rename_i es kk p
    have hh : t.hot = false := by
      rcases hh with ⟨_, _, z⟩ | z
      · cases z
      · exact z
    split at h
    · rename_i xs e' h1 h2
      split at h
      · rename_i is h3
        split at h
        · cases h
        · rename_i hc
          cases h
          simp only [Bool.or_eq_true, not_or, Bool.not_eq_true] at hc
          simp only [chkS] at k
          split at k
          · rename_i G1 hG1
            obtain ⟨hl, hok⟩ := tryLow_ok hG1
            simp only [Bool.and_eq_true] at hok
            obtain ⟨hxL, hok⟩ := hok
            split at k
            · rename_i hall
              cases k
              simp only [Bool.and_eq_true, List.all_eq_true, decide_eq_true_eq] at hall
              obtain ⟨⟨kl, kn⟩, hall⟩ := hall
              refine ps_low kl (ps_low hl (s_sets hxL s.o.hK hall kn ((s.good _ _ h2).pe _ hok) (pg_of s.o.nd (s.o.calm hh) h1 ?_) (by rw [swS]; exact sw_plain hc.2) ?_ rfl))
              · clear hok hall hG1 h1 hc kl kn hl
                revert is
                induction xs with
                | nil => intro is h3; cases h3; exact .nil
                | cons x xs ih =>
                  intro is h3
                  unfold mapO at h3
                  cases q1 : slotLoc t sc x with
                  | none => rw [q1] at h3; simp at h3
                  | some i =>
                    cases q2 : mapO (slotLoc t sc) xs with
                    | none => rw [q1, q2] at h3; simp at h3
                    | some is' =>
                      rw [q1, q2] at h3
                      cases h3
                      obtain ⟨h1, h2, _, _⟩ := s.loc q1
                      exact .cons h1 h2 (.inl (s.fn x)) (ih _ q2)
              · have := hc.1
                cases value <;> first | rfl | (cases this; done)
            · cases k
          · cases k
      · cases h
    · cases h
  · rename_i o kk p
    split at h
    · rename_i i path k' e' h1 h2 h3
      split at h
      · cases h
      rename_i hkey
      have hkey : Mp.isTupE k' = true → isTuple kk = true := fun z => by
        rw [z] at hkey
        simpa using hkey
      cases h
      simp only [chkS] at k
      split at k
      · rename_i G1 hG1
        cases k
        obtain ⟨hl, hok⟩ := tryO_ok hG1
        simp only [Bool.and_eq_true] at hok
        obtain ⟨hxL, hok⟩ := hok
        split at hok
        · rename_i j hj
          simp only [Bool.and_eq_true] at hok
          obtain ⟨K, hK, hlt, hpath, rfl⟩ := chkPath_ok hj
          obtain ⟨pl, _, _⟩ := plc_of s h1 hK hpath
          refine ps_low hl (s_put hkey hxL s.o.hK (by omega) hK rfl hlt (na_of hok.1.1) pl (x_key s.o (fun m _ => e_all m X sc G' W s.o) h2 hok.2) ((s.good _ _ h3).pe _ hok.1.2) (s.good (G := G') _ _ h2).shp.asub (by rw [swS]; exact sw_sub (fun _ _ => by simp)) ?_)
          cases value <;> rfl
        · cases hok
      · cases k
    · cases h
  · rename_i x p f p2
    split at h
    · rename_i i e' h1 h2 h3
      cases h
      simp only [chkS] at k
      split at k
      · split at k
        · rename_i G1 hG1
          cases k
          obtain ⟨hl, hok⟩ := tryLow_ok hG1
          simp only [Bool.and_eq_true] at hok
          obtain ⟨hxL, hok⟩ := hok
          obtain ⟨j, ej, hj⟩ := ixOf_at h2
          rw [Nat.zero_add] at ej
          subst ej
          obtain ⟨g1, g2, g3, g4⟩ := s.loc h1
          refine ps_low hl (s_setF hxL s.o.hK (by rw [s.o.FN]; exact s.o.T.fnd) (by rw [s.o.FN]; exact hj) (s.o.T.att fun z => ?_) g1 (Loc.vis g2) g3 g4 ?_ hok.1.2 ((s.good _ _ h3).pe _ hok.2) (sw_sub (fun _ _ => by simp)))
          · rw [z] at hj; cases hj
          · have := hok.1.1
            split at this
            · assumption
            · cases this
        · cases k
      · cases k
    · cases h
  · cases h
theorem x_expS (s : SOk X C t sc sf sg W) {e : Expr} {pos : Pos} {s' : Mp.S} (h : compExp t (comp t n sc) sc e = some s') (k : chkS sg ini s' L G = some G') : PS X (.Expr e pos) (tSt C sf W sg.rt L G G' s') := by
  have drop : ∀ {e : Expr} {e' : Mp.E}, comp t n sc e = some e' → isComp e = false → chkS sg ini (.exp e') L G = some G' → PS X (.Expr e pos) (tSt C sf W sg.rt L G G' (.exp e')) := fun {e e'} h hc k => by
    simp only [chkS] at k
    obtain ⟨hl, hok⟩ := tryLow_ok k
    simp only [Bool.and_eq_true] at hok
    exact ps_low hl (s_drop hok.1 ((s.good _ _ h).pe _ hok.2) (sw_plain hc))
  unfold compExp at h
  split at h
  · rename_i s1 hs1
    cases h
    unfold compApop at hs1
    split at hs1
    · rename_i x p1 m ap a cpos
      split at hs1
      · rename_i hm
        simp only [Bool.and_eq_true, decide_eq_true_eq] at hm
        obtain ⟨⟨rfl, hl1⟩, hal⟩ := hm
        split at hs1
        · rename_i i j k' h1 h2
          cases hs1
          unfold popOf at h2
          split at h2
          · rename_i y p2 m2 ap2 kk pos2
            split at h2
            · rename_i hm2
              simp only [Bool.and_eq_true, decide_eq_true_eq] at hm2
              obtain ⟨⟨rfl, hl2⟩, hal2⟩ := hm2
              split at h2
              · rename_i j' k'' h3 h4
                cases h2
                simp only [chkS] at k
                split at k
                · cases k
                · split at k
                  · rename_i hc
                    cases k
                    simp only [Bool.and_eq_true, decide_eq_true_eq, Bool.not_eq_true', beq_eq_false_iff_ne] at hc
                    obtain ⟨⟨⟨⟨⟨⟨⟨c1, c2⟩, c3⟩, c4⟩, c5⟩, c6⟩, c7⟩, c8⟩ := hc
                    obtain ⟨g1, g2, g3, g4⟩ := s.loc h1
                    obtain ⟨f1, f2, f3, f4⟩ := s.loc h3
                    have gk := s.good (G := (G.set i (.ow 1)).set j (.ow 1)) _ _ h4
                    refine s_apop c2 c1 ?_ ?_ c3 c6 c7 g1 (Loc.vis g2) g3 g4 f1 (Loc.vis f2) f3 f4 hl1 hl2 gk.shp.ns (gk.pe _ c8) rfl
                    · rw [List.getElem?_set_ne (Ne.symm c3), List.getElem?_set_self c4]
                    · rw [List.getElem?_set_self (by rw [List.length_set]; exact c5)]
                  · cases k
              · cases h2
            · cases h2
          · cases h2
        · cases hs1
      · cases hs1
    · cases hs1
  split at h
  · rename_i o m ap a cpos
    split at h
    · rename_i hm
      subst hm
      split at h
      · rename_i i path a' h1 h2
        split at h
        · rename_i hl0
          cases h
          simp only [chkS] at k
          split at k
          · rename_i G1 hG1
            cases k
            obtain ⟨hl, hok⟩ := tryO_ok hG1
            simp only [Bool.and_eq_true] at hok
            obtain ⟨hxL, hok⟩ := hok
            split at hok
            · rename_i j hj
              simp only [Bool.and_eq_true] at hok
              obtain ⟨K, hK, hlt, hpath, rfl⟩ := chkPath_ok hj
              obtain ⟨pl, nc, _⟩ := plc_of s h1 hK hpath
              exact ps_low hl (s_app hxL s.o.hK hK rfl hlt (na_of hok.1) pl nc hl0 (s.good (G := G') _ _ h2).shp.ns ((s.good _ _ h2).pe _ hok.2) rfl)
            · cases hok
          · cases k
        · cases h
      · cases h
    · obtain ⟨e', he, rfl⟩ := Option.map_eq_some_iff.mp h
      exact drop he rfl k
  · split at h
    · cases h
    · rename_i hc
      obtain ⟨e', he, rfl⟩ := Option.map_eq_some_iff.mp h
      exact drop he (by simpa using hc) k
theorem tgOk_def (s : SOk X C t sc sf sg W) : ∀ {xs : List Str} {is : List Nat}, mapO (slotLoc t sc) xs = some is → TgOk X xs is
  | [], is, h => by cases h; exact .nil
  | x :: xs, is, h => by
    unfold mapO at h
    cases q1 : slotLoc t sc x with
    | none => rw [q1] at h; simp at h
    | some i =>
      cases q2 : mapO (slotLoc t sc) xs with
      | none => rw [q1, q2] at h; simp at h
      | some is' =>
        rw [q1, q2] at h
        cases h
        obtain ⟨h1, h2, _, _⟩ := s.loc q1
        exact .cons h1 h2 (.inl (s.fn x)) (tgOk_def s q2)
theorem lowO_ok {o : Option (List Md)} {G1 : List Md} (h : lowO o G1 = true) : ∃ G2, o = some G2 ∧ lowG G2 G1 = true := by
  cases o with
  | none => cases h
  | some G2 => exact ⟨G2, rfl, h⟩
theorem orW_ok {st : Stmt} {o : Option Mp.S} (h : ∀ s', o = some s' → chkS sg ini s' L G = some G' → PS X st (tSt C sf W sg.rt L G G' s')) (k : chkS sg ini (orW o) L G = some G') : PS X st (tSt C sf W sg.rt L G G' (orW o)) := by
  cases o with
  | none => exact s_wall
  | some s' => exact h s' rfl k
theorem hot_no {st : Stmt} (h : ¬ (t.hot && !hotOk st) = true) (q : hotOk st = false) : t.hot = false := by
  rw [q] at h
  simpa using h
theorem x_rse (s : SOk X C t sc sf sg W) (hh : t.hot = false) {e : Expr} {pos : Pos} {s' : Mp.S} (h : compRse t (comp t n sc) sc e = some s') (k : chkS sg ini s' L G = some G') : PS X (.Raise (some e) none pos) (tSt C sf W sg.rt L G G' s') := by
  unfold compRse at h
  split at h
  · rename_i x p1 args p2
    split at h
    · cases h
    · rename_i hc
      simp only [Bool.or_eq_true, not_or, Bool.not_eq_true', Bool.not_eq_false, decide_eq_true_eq] at hc
      obtain ⟨⟨hg, _⟩, hlv⟩ := hc
      have hg := s.o.gl hg
      split at h
      · rename_i ex hex
        have F := s.R.rx _ _ hex
        split at h
        · rename_i hfs
          cases h
          simp only [chkS] at k
          · obtain ⟨G1, hG1, _⟩ := Option.map_eq_some_iff.mp k
            obtain ⟨hl, hok⟩ := tryLow_ok hG1
            simp only [Bool.and_eq_true] at hok
            rw [hfs] at F
            exact ps_low hl (s_rse0 hok.1 s.o.hK (s.o.calm hh) s.tk F hg)
        · rename_i f0 fs0 e0 es0 hfs
          split at h
          · rename_i as has
            split at h
            · rename_i hlen
              cases h
              simp only [Bool.and_eq_true, beq_iff_eq, decide_eq_true_eq] at hlen
              simp only [chkS] at k
              · obtain ⟨G1, hG1, _⟩ := Option.map_eq_some_iff.mp k
                obtain ⟨hl, hok⟩ := tryLow_ok hG1
                simp only [Bool.and_eq_true] at hok
                refine ps_low hl (s_rse hok.1 s.o.hK (s.o.calm hh) s.tk ((s.o.room hh).mono (by omega)) F hg (by rw [hfs]; simp) (by rw [← mapO_len has]; omega) (x_args (fun e e' z => s.good (G := G1) _ _ z) has hok.2))
            · cases h
          · cases h
        · cases h
      · cases h
  · cases h
end
mutual
theorem st_all {X : Cx} {C : Cfg} {t : Tc} {sc : Scope} {sf : Mp.Sf} {sg : Sg} {W : WX} {n : Nat} {ini : Bool} (s : SOk X C t sc sf sg W) : ∀ (m : Nat) (st : Stmt) (L : Lx) (G G' : List Md), chkS sg ini (compS t n sc m st) L G = some G' → PS X st (tSt C sf W sg.rt L G G' (compS t n sc m st))
  | 0, st, L, G, G', _ => s_wall
  | m + 1, st, L, G, G', k => by
    unfold compS at k ⊢
    split at k
    · rename_i hw
      rw [if_pos hw]
      exact s_wall
    rename_i hw
    rw [if_neg hw]
    split at k
    · rename_i tg value pos
      refine orW_ok (fun s' h k => x_asg s ?_ h k) k
      cases tg <;> first | exact .inl ⟨_, _, rfl⟩ | exact .inr (hot_no hw rfl)
    · exact orW_ok (fun s' h k => x_expS s h k) k
    · rename_i c a b pos
      cases hc : comp t n sc c with
      | none => exact s_wall
      | some c' =>
        rw [hc] at k
        simp only at k ⊢
        simp only [chkS] at k
        split at k
        · rename_i G0 hG0
          obtain ⟨hl, hok⟩ := tryLow_ok hG0
          simp only [Bool.and_eq_true] at hok
          obtain ⟨hxL, hok⟩ := hok
          split at k
          · rename_i G1 G2 h1 h2
            split at k
            · rename_i G3 h3
              split at k
              · rename_i hl2
                cases k
                simp only [Bool.and_eq_true] at hl2
                exact ps_low hl (s_ifs hxL ((s.good _ _ hc).pt 9 hok.2 hok.1) (ss_all s m a L G0 G1 h1) (ss_all s m b L G0 G2 h2) hl2.1 hl2.2)
              · cases k
            · cases k
          · cases k
        · cases k
    · rename_i tg it body pos
      have hh := hot_no hw rfl
      cases hx : tgOf tg with
      | none => exact s_wall
      | some xs =>
        cases hi : compIt (comp t n sc) sc it with
        | none => exact s_wall
        | some it' =>
          rw [hx, hi] at k
          simp only at k ⊢
          cases hs : mapO (slotLoc t sc) xs with
          | none => exact s_wall
          | some is =>
            rw [hs] at k
            simp only at k ⊢
            by_cases ht : tgIt tg it' = true
            · rw [if_pos ht] at k ⊢
              simp only [chkS] at k
              split at k
              · rename_i G0 hG0
                obtain ⟨hl, hok⟩ := tryLow_ok hG0
                simp only [Bool.and_eq_true] at hok
                obtain ⟨hxL, hok⟩ := hok
                split at k
                · cases k
                · rename_i hall
                  have hall : ∀ i ∈ is, i < G0.length := by simpa using hall
                  split at k
                  · rename_i G1 hG1
                    split at k
                    · rename_i hc
                      cases k
                      simp only [Bool.and_eq_true] at hc
                      obtain ⟨⟨cn, c1⟩, c2⟩ := hc
                      obtain ⟨G2, hG2, c2⟩ := lowO_ok c2
                      · have fold : ∀ x, foldedSetIterable it X.env x = pure x := by
                          intro x
                          have hn : ∀ {e r}, cpN (comp t n sc) e = some r → foldedSetIterable e X.env x = pure x := fun {e r} h => by
                            unfold cpN at h
                            split at h
                            · rename_i r hr
                              exact (s.good (G := G) _ _ hr).shp.fold X.env x
                            · cases h
                          unfold compIt at hi
                          split at hi
                          · rfl
                          · rfl
                          · exact hn hi
                        have pi := x_it (fz := true) (G := G0) s.o (s.good) (fun x p e' h => comp_nm h) (fun e i h => nm_of h) hi hok ht
                        exact ps_low hl (s_for hxL (wkIt_tg ht hx (mapO_len hs)) s.o.hK (s.own hh) (s.o.calm hh) pi (pg_of s.o.nd (s.o.calm hh) hx (tgOk_def s hs)) fold (fun i h => by rw [lowG_len c1]; exact hall i h) cn c1 (ss_all s m body { L with lp := some G' } (setFr is G') G2 hG2) c2)
                    · cases k
                  · cases k
              · cases k
            · rw [if_neg ht] at k ⊢
              exact s_wall
    · rename_i c body pos
      have hh := hot_no hw rfl
      cases hc : comp t n sc c with
      | none => exact s_wall
      | some c' =>
        rw [hc] at k
        simp only at k ⊢
        simp only [chkS] at k
        split at k
        · rename_i G1 hG1
          split at k
          · rename_i hk
            cases k
            simp only [Bool.and_eq_true] at hk
            obtain ⟨⟨⟨⟨c1, cx⟩, c2⟩, c3⟩, c4⟩ := hk
            obtain ⟨G2, hG2, c4⟩ := lowO_ok c4
            exact s_whl cx (s.own hh) ((s.good _ _ hc).pt 9 c3 c2) c1 (ss_all s m body { L with lp := some G' } G' G2 hG2) c4
          · cases k
        · cases k
    · exact s_retN
    · rename_i e pos
      cases hc : comp t n sc e with
      | none => exact s_wall
      | some e' =>
        rw [hc] at k
        simp only at k ⊢
        simp only [chkS] at k
        split at k
        · cases k
        · split at k
          · rename_i hm
            unfold isNmOw at hm
            split at hm
            · rename_i i
              split at hm
              · rename_i kk hkk
                obtain ⟨x, p, rfl⟩ := nm_of hc
                have hs := comp_nm hc
                obtain ⟨h1, h2, h3, h4⟩ := s.o.vis hs
                exact s_retM h1 h2 h3 h4 hkk (of_decide_eq_true hm)
              · cases hm
            · cases hm
          · obtain ⟨G1, hG1, e1⟩ := Option.map_eq_some_iff.mp k
            obtain ⟨hl, hok⟩ := tryLow_ok hG1
            simp only [Bool.and_eq_true] at hok
            exact ps_low hl (s_ret hok.1 ((s.good _ _ hc).pe _ hok.2))
    · cases k; exact s_pass
    · simp only [chkS] at k
      split at k
      · rename_i G1 hG1
        split at k
        · rename_i hl
          exact s_brk hG1 hl
        · cases k
      · cases k
    · simp only [chkS] at k
      split at k
      · rename_i G1 hG1
        split at k
        · rename_i hl
          exact s_cnt hG1 hl
        · cases k
      · cases k
    · exact orW_ok (fun s' h k => x_rse s (hot_no hw rfl) h k) k
    · rename_i body hds pos
      have hh := hot_no hw rfl
      cases hc : compHs t n sc m hds with
      | none => exact s_wall
      | some hs =>
        rw [hc] at k
        cases hs with
        | nil => exact s_wall
        | cons h hs =>
          simp only at k ⊢
          simp only [chkS] at k
          split at k
          · cases k
          split at k
          · cases k
          split at k
          · rename_i G1 Gs h1 h2
            split at k
            · rename_i G2 h3
              split at k
              · rename_i hc2
                cases k
                simp only [Bool.and_eq_true] at hc2
                obtain ⟨⟨c1, c2⟩, c3⟩ := hc2
                have hh2 := hs_all s hh m hds (h :: hs) L _ G' Gs hc h2 (fun G3 hG3 => List.all_eq_true.mp c2 G3 hG3)
                cases hds with
                | nil => cases hh2
                | cons h0 hds =>
                  exact s_tri s.stk s.frm s.o.nd s.tk c3 (fun W' pn xe tk own => ss_all (s.tr tk own hh) m body _ G G1 h1) hh2 c1
              · cases k
            · cases k
          · cases k
    · exact s_wall
theorem hs_all {X : Cx} {C : Cfg} {t : Tc} {sc : Scope} {sf : Mp.Sf} {sg : Sg} {W : WX} {n : Nat} {ini : Bool} (s : SOk X C t sc sf sg W) (hh : t.hot = false) : ∀ (m : Nat) (hds : List ExceptHandler) (hs : List Mp.Hn) (L : Lx) (GX G2 : List Md) (Gs : List (List Md)), compHs t n sc m hds = some hs → chkHs sg ini hs L GX = some Gs → (∀ G3 ∈ Gs, lowG G3 G2 = true) → HdsM X C sf sg.rt GX G2 hds hs
  | 0, hds, hs, L, GX, G2, Gs, hc, _, _ => by unfold compHs at hc; cases hc
  | m + 1, [], hs, L, GX, G2, Gs, hc, _, _ => by
    unfold compHs at hc
    cases hc
    exact .nil
  | m + 1, h :: hds, hs, L, GX, G2, Gs, hc, k, hl => by
    unfold compHs at hc
    split at hc
    · rename_i c x b suite pos
      split at hc
      · rename_i kk i r h1 h2 h3
        cases hc
        simp only [chkHs] at k
        split at k
        · rename_i Gh Gr k1 k2
          cases k
          simp only [chkH] at k1
          split at k1
          · rename_i hcond
            simp only [Bool.and_eq_true, decide_eq_true_eq] at hcond
            obtain ⟨⟨⟨⟨d1, d0⟩, d2⟩, d3⟩, d4⟩ := hcond
            split at k1
            · rename_i G3 hG3
              split at k1
              · rename_i hcond2
                cases k1
                simp only [Bool.and_eq_true, decide_eq_true_eq] at hcond2
                obtain ⟨⟨f1, f2⟩, f3⟩ := hcond2
                unfold hnCls at h1
                split at h1
                · rename_i xc np
                  split at h1
                  · rename_i hgx
                    simp only [Bool.and_eq_true, Bool.not_eq_true'] at hgx
                    obtain ⟨hv, e1, e2, e3⟩ := s.R.xk _ _ h1
                    refine .cons ⟨hv, ⟨s.o.gl hgx.1, e2, .inl e1⟩, fun c hc => by rw [s.o.hK]; exact e3 c hc⟩ ?_ d2 d3 d4 (fun a oe cls d pn hz hv => ss_all (s.suite hz hv) m (b :: suite) ⟨none, none⟩ _ G3 hG3) f2 f3 (hl _ List.mem_cons_self) (hs_all s hh m hds r L GX G2 Gr h3 k2 fun G3 hG3 => hl G3 (List.mem_cons_of_mem _ hG3))
                    unfold hnSlot at h2
                    split at h2
                    · cases h2
                      exact ⟨d1, f1⟩
                    · rename_i xn
                      split at h2
                      · split at h2
                        · rename_i hlk
                          split at h2
                          · rename_i i0 hi0
                            split at h2
                            · rename_i hlt
                              cases h2
                              obtain ⟨j, e, hj⟩ := ixOf_at hi0
                              rw [Nat.zero_add] at e
                              subst e
                              simp only [Bool.or_eq_true, decide_eq_true_eq, beq_iff_eq] at d0
                              refine ⟨by rcases d0 with d0 | d0 <;> omega, by rw [s.o.hN]; exact hj, ?_⟩
                              show X.env.scope.names.lookup xn = some .local
                              rw [s.hsc]
                              exact hlk
                            · cases h2
                          · cases h2
                        · cases h2
                      · cases h2
                  · cases h1
                · cases h1
              · cases k1
            · cases k1
          · cases k1
        · cases k
      · cases hc
    · cases hc
theorem ss_all {X : Cx} {C : Cfg} {t : Tc} {sc : Scope} {sf : Mp.Sf} {sg : Sg} {W : WX} {n : Nat} {ini : Bool} (s : SOk X C t sc sf sg W) : ∀ (m : Nat) (sts : List Stmt) (L : Lx) (G G' : List Md), chkSs sg ini (compSs t n sc m sts) L G = some G' → PSs X sts (tSs C sf W sg.rt L G G' (compSs t n sc m sts))
  | 0, sts, L, G, G', k => ⟨fun _ _ _ _ _ _ ⟨_, _, _, _, _, _, w⟩ => (show False from w).elim⟩
  | m + 1, [], L, G, G', k => by
    cases k
    exact ss_nil
  | m + 1, st :: sts, L, G, G', k => by
    unfold compSs at k ⊢
    simp only [chkSs] at k
    split at k
    · rename_i G1 h1
      exact ss_cons (st_all s m st L G G1 h1) (ss_all s m sts L G1 G' k)
    · cases k
end
end MpS

/-! MpFn: defs. -/
namespace MpS
open PySem PySem.Spec PyProof.Rows L2

/-- a body, s what its calls of itself do -/
def runB (g : Mp.F) (s : Mp.Sf) : Mp.Sf := fun args => if args.length = g.np then Mp.endO g.ini (Mp.execs g.body s (args ++ List.replicate (g.ns - g.np) .un)) else .bad
theorem run_rec (g : Mp.F) : Mp.run g = Nat.rec (motive := fun _ => Mp.Sf) (runB g fun _ => .bad) (fun _ s => runB g s) g.rc := by
  cases g
  rfl
def md0 (m : Nat) : Md := match m with
  | 0 => .fr
  | m + 1 => .bw (m + 1)
def G0 (g : Mp.F) : List Md := g.md.map md0 ++ List.replicate (g.ns - g.np) (.ow 9)
/-- what is seen of a def's text -/
structure DefS (K : PySem.W.Frag) (f : Addr) (fd : FuncData) (qual : Str) (body : List Stmt) (scope : Scope) (N ps : List Str) (tc : Tc) (g : Mp.F) : Prop where
  S : FnScope N ps scope
  bind : Binds K fd ps []
  hN : tc.N = N
  np : g.np = ps.length
  ns : g.ns = N.length
  md : g.md.length = ps.length
  nn : ∀ x ∈ N, (x == ("__debug__" : Str)) = false ∧ (x == ("__classdict__" : Str)) = false
  cold : tc.hot = false
  comp : ∃ n m, compSs tc n scope m body = g.body
  ck : ∃ G', chkSs ⟨g.md, g.rt⟩ g.ini g.body ⟨none, none⟩ (G0 g) = some G'
section
variable {P : Program} {w : World} {K : PySem.W.Frag} {mg : Str → Option Value} {base : Heap} {C : Cfg} {T : Tb}
theorem sOk_def {tc : Tc} {k : Nat} {N : List Str} {qual : Str} {scope : Scope} {f : Addr} {cdv : Value} {A : Around} {outer : List Env} {s : Shared} {H : Hp} {E : XK} {sf : Mp.Sf} {sg : Sg} (hKC : K = C.K) (hFN : C.FN = tc.T.FN) (hN : tc.N = N) (nd : N.Nodup) (kind : scope.kind = .function)
    (nn : ∀ x ∈ N, (x == ("__debug__" : Str)) = false ∧ (x == ("__classdict__" : Str)) = false) (hr : Room k (A.deeper (envOfC qual scope s.heap.objs.size f cdv))) (hk : tc.lv ≤ k) (hot : tc.hot = false) (TO : TOk P w K mg base C tc.T tc.lv) (RO : ROk P w K mg base C tc.T)
    (self : ∀ x, tc.slf = some x → ∃ l, l ≤ k ∧ FnF P w K mg base C x sf sg.md sg.rt l) :
    SOk (cxOf (L2.CX P w) P w K mg base N qual scope f cdv A outer s H E) C tc scope sf sg (fun cls dx _ H => E cls dx H) where
  o := {
    hK := hKC
    FN := hFN
    hN := hN.symm
    nd := nd
    calm := fun _ => rfl
    un := by
      have h := hr.un
      show (A.deeper (envOfC qual scope s.heap.objs.size f cdv)).units + 65 < cLine
      omega
    exs := fun z => by rw [hot] at z; cases z
    scr := fun x => .inl rfl
    nn := by rw [hN]; exact nn
    room := fun _ => hr.mono hk
    pa := fun σ pins H s e s' I c => takes_of (E₁ := fun e' s'' => L2.CX P w outer _ _ E e' s'') rfl rfl rfl rfl e s' (XE.of_call (W := fun cls d _ H => E cls d H) I (fun cls d H' h => h) c)
    T := TO
    slf := fun x hx _ => let ⟨l, hl, F⟩ := self x hx; ⟨l, hr.mono hl, F⟩ }
  R := RO
  hsc := rfl
  kind := kind
  fn := fun _ => rfl
  tk := takes_of (E₁ := fun e' s'' => L2.CX P w outer _ _ E e' s'') rfl rfl rfl rfl
  stk := rfl
  frm := rfl
  own := fun _ => passes_of (K := fun e s'' => L2.CX P w outer H s E e s'') (E₁ := fun e' s'' => L2.CX P w outer H s E e' s'') rfl
theorem rsL_len {Fz : Addr → Prop} {H : Hp} : ∀ {ks : List Kd} {ds : List Mp.D} {vs : List V} {A : List Addr}, RsL C Fz H ks ds vs A → ds.length = ks.length ∧ vs.length = ks.length
  | [], _, _, _, h => by obtain ⟨rfl, rfl, rfl⟩ := h; exact ⟨rfl, rfl⟩
  | k :: ks, _, _, _, h => by
    obtain ⟨d, ds', v, vs', B, B', rfl, rfl, rfl, h1, h2⟩ := h
    obtain ⟨i1, i2⟩ := rsL_len h2
    exact ⟨by simp [i1], by simp [i2]⟩
theorem rsL_at {Fz : Addr → Prop} {H : Hp} : ∀ {ms : List Nat} {ds : List Mp.D} {vs : List V} {A : List Addr}, RsL C Fz H (ms.map Kd.rd) ds vs A → A = [] ∧ ∀ (i m : Nat) (d : Mp.D) (v : V), ms[i]? = some m → ds[i]? = some d → vs[i]? = some v → Rd C Fz H m d v
  | [], _, _, _, h => by obtain ⟨rfl, rfl, rfl⟩ := h; exact ⟨rfl, fun i m d v h => by simp at h⟩
  | k :: ks, _, _, _, h => by
    obtain ⟨d, ds', v, vs', B, B', rfl, rfl, rfl, ⟨h1, rfl⟩, h2⟩ := h
    obtain ⟨rfl, i2⟩ := rsL_at h2
    refine ⟨rfl, fun i m d' v' e1 e2 e3 => ?_⟩
    cases i with
    | zero => simp at e1 e2 e3; subst e1 e2 e3; exact h1
    | succ i => exact i2 i m d' v' (by simpa using e1) (by simpa using e2) (by simpa using e3)
theorem get_rep {α : Type} {n i : Nat} {x y : α} (h : (List.replicate n x)[i]? = some y) : y = x := (List.eq_of_mem_replicate (List.mem_of_getElem? h))
/-- the frame at a def's start -/
theorem bi_start {g : Mp.F} {N ps : List Str} {Fz : Addr → Prop} {H : Hp} {ds : List Mp.D} {vs : List V} {A : List Addr} (np : g.np = ps.length) (ns : g.ns = N.length) (md : g.md.length = ps.length) (hle : ps.length ≤ N.length) (r : RsL C Fz H (g.md.map Kd.rd) ds vs A) (trk : ∀ a, Fz a → ∃ o, H a = some o) :
    BI C (G0 g) Fz Fz H (ds ++ List.replicate (g.ns - g.np) .un) (L2.start N vs) H (fun _ => []) where
  l1 := by
    have := (rsL_len r).2
    simp only [List.length_map] at this
    unfold G0 L2.start
    simp only [List.length_append, List.length_map, List.length_replicate]
    omega
  l2 := by
    have := rsL_len r
    simp only [List.length_map] at this
    unfold L2.start
    simp only [List.length_append, List.length_map, List.length_replicate]
    omega
  slot := fun i m d o h1 h2 h3 => by
    have hl := rsL_len r
    simp only [List.length_map] at hl
    obtain ⟨_, hat⟩ := rsL_at r
    by_cases hi : i < ps.length
    · unfold G0 at h1
      unfold L2.start at h3
      rw [List.getElem?_append_left (by simp; omega), List.getElem?_map] at h1
      rw [List.getElem?_append_left (by omega)] at h2
      rw [List.getElem?_append_left (by simp; omega), List.getElem?_map] at h3
      obtain ⟨m', e1, rfl⟩ := Option.map_eq_some_iff.mp h1
      obtain ⟨v, e3, rfl⟩ := Option.map_eq_some_iff.mp h3
      have q := hat i m' d v e1 h2 e3
      refine .inr ⟨v, rfl, ?_⟩
      cases m' with
      | zero => exact ⟨q, rfl⟩
      | succ m => exact ⟨q, rfl⟩
    · rw [List.getElem?_append_right (by omega)] at h2
      exact .inl ⟨get_rep h2, rfl⟩
  far := fun _ _ => rfl
  nd := fun _ => List.nodup_nil
  dj := fun i j a h => by cases h
  own := fun i a h => by cases h
  al := fun i b m h => by
    exfalso
    have := List.mem_of_getElem? h
    unfold G0 at this
    rcases List.mem_append.mp this with z | z
    · obtain ⟨k, _, e⟩ := List.mem_map.mp z
      cases k <;> cases e
    · cases List.eq_of_mem_replicate z
  ext := .refl trk
/-- a def does what its Mp does -/
theorem fn_body {x qual : Str} {params : Arguments} {body : List Stmt} {scope : Scope} {f : Addr} {fd : FuncData} {N ps : List Str} {g : Mp.F} {tc : Tc} {k : Nat} {sf : Mp.Sf} (F : FunD K x qual params body scope [] [] f fd) (D : DefS K f fd qual body scope N ps tc g) (hKC : K = C.K) (hFN : C.FN = tc.T.FN) (hini : g.ini = false)
    (TO : TOk P w K mg base C tc.T tc.lv) (RO : ROk P w K mg base C tc.T) (hk : tc.lv ≤ k) (self : ∀ x, tc.slf = some x → ∃ l, l ≤ k ∧ FnF P w K mg base C x sf g.md g.rt l) : FnOk P w K mg base (L2.CX P w) (k + 1) f fd ps (spB C (runB g sf) g.md g.rt) := by
  obtain ⟨n, m, hcomp⟩ := D.comp
  obtain ⟨G', hck⟩ := D.ck
  have hle : ps.length ≤ N.length := by
    have := congrArg List.length D.S.pre
    rw [List.length_take] at this
    omega
  refine F.ok D.S (fun vs H Q E h => ?_) fun cdv A outer s H vs Q E hr h => ?_
  · obtain ⟨ds, Fz, A, r, _⟩ := h
    rw [(rsL_len r).2, List.length_map, D.md]
  · obtain ⟨ds, Fz, A1, r, trk, wf⟩ := h
    have so := sOk_def (P := P) (w := w) (mg := mg) (base := base) (outer := outer) (H := H) (E := E) (sf := sf) (sg := ⟨g.md, g.rt⟩) hKC hFN D.hN D.S.nd D.S.kind D.nn hr hk D.cold TO RO self
    rw [← hcomp] at hck
    refine ⟨_, ss_all so m body ⟨none, none⟩ (G0 g) G' hck, Fz, Fz, H, ds ++ List.replicate (g.ns - g.np) .un, fun _ => [], bi_start D.np D.ns D.md hle r trk, ?_⟩
    rw [hcomp]
    have hl : ds.length = g.np := by rw [(rsL_len r).1, List.length_map, D.md, D.np]
    have wf : WF C E (.ow g.rt) Fz H (Mp.endO false (Mp.execs g.body sf (ds ++ List.replicate (g.ns - g.np) .un))) Q := by
      have e : runB g sf ds = Mp.endO false (Mp.execs g.body sf (ds ++ List.replicate (g.ns - g.np) .un)) := by
        unfold runB
        rw [if_pos hl, hini]
      rw [← e]
      exact wf
    show OutW C (fun cls dx _ H => E cls dx H) { nx := fun _ H' => Q .non H', rt := Q } Fz H g.rt ⟨none, none⟩ G' Fz H (Mp.execs g.body sf (ds ++ List.replicate (g.ns - g.np) .un))
    cases hx : Mp.execs g.body sf (ds ++ List.replicate (g.ns - g.np) .un) with
    | nx env =>
      rw [hx] at wf
      have wf : Fin C Q (.ow g.rt) Fz H .non := wf
      intro σ' H' Fz' As' ev b
      exact wf .non H' Fz' [] b.ext (ow_of (d := .non) (by simp only [Val]) (by simp) (by simp) (by simp) g.rt) List.nodup_nil (fun a ha => by cases ha)
    | rt d env =>
      rw [hx] at wf
      have wf : Fin C Q (.ow g.rt) Fz H d := wf
      exact fun v H' Fz' A e r n f => wf v H' Fz' A e r n f
    | ex d env =>
      rw [hx] at wf
      have wf : XW C E Fz H d := wf
      intro σ' H' Fz' As' G1 _ ev b cls dx H2 Fz2 e2 xr
      exact wf cls dx H2 Fz2 (b.ext.trans e2) xr
    | br env => rw [hx] at wf; exact (show False from wf).elim
    | ct env => rw [hx] at wf; exact (show False from wf).elim
    | bad => rw [hx] at wf; exact (show False from wf).elim
/-- .. as the table has it -/
theorem fnF_of {x qual : Str} {params : Arguments} {body : List Stmt} {scope : Scope} {f : Addr} {fd : FuncData} {N ps : List Str} {g : Mp.F} {tc : Tc} {lv : Nat} (F : FunD K x qual params body scope [] [] f fd) (D : DefS K f fd qual body scope N ps tc g) (hKC : K = C.K) (hFN : C.FN = tc.T.FN) (hini : g.ini = false)
    {y : Str} (hm : mg y = some (.ref f)) (hnd : (y == ("__debug__" : Str)) = false) (hlv : lv = tc.lv + 1 + g.rc) (hslf : tc.slf = none ∧ g.rc = 0 ∨ tc.slf = some y) (TO : TOk P w K mg base C tc.T tc.lv) (RO : ROk P w K mg base C tc.T) : FnF P w K mg base C y (Mp.run g) g.md g.rt lv := by
  have mk : ∀ {h : Mp.Sf} {l : Nat}, FnOk P w K mg base (L2.CX P w) l f fd ps (spB C h g.md g.rt) → FnF P w K mg base C y h g.md g.rt l := fun F' => ⟨⟨f, fd, ps, hm, F.kp, D.bind, F'⟩, hnd⟩
  rcases hslf with ⟨h1, h2⟩ | hs
  · have := fn_body (sf := fun _ => .bad) F D hKC hFN hini TO RO (Nat.le_refl _) (fun x hx => by rw [h1] at hx; cases hx)
    rw [run_rec, hlv, h2]
    exact mk this
  · have bad : ∀ l, FnF P w K mg base C y (fun _ => .bad) g.md g.rt l := fun l => mk ⟨fun vs H Q E h => by obtain ⟨ds, Fz, A, r, _, wf⟩ := h; exact (show False from wf).elim, fun A outer s H args us vs Q E hr he hb hv h => by obtain ⟨ds, Fz, A, r, _, wf⟩ := h; exact (show False from wf).elim⟩
    have key : ∀ j, FnOk P w K mg base (L2.CX P w) (tc.lv + j + 1) f fd ps (spB C (Nat.rec (motive := fun _ => Mp.Sf) (runB g fun _ => .bad) (fun _ s => runB g s) j) g.md g.rt) := by
      intro j
      induction j with
      | zero => exact fn_body F D hKC hFN hini TO RO (Nat.le_refl _) fun x hx => by rw [hs] at hx; cases hx; exact ⟨0, Nat.zero_le _, bad 0⟩
      | succ j ih => exact fn_body F D hKC hFN hini TO RO (by omega) fun x hx => by rw [hs] at hx; cases hx; exact ⟨tc.lv + j + 1, Nat.le_refl _, mk ih⟩
    have := key g.rc
    rw [run_rec, hlv]
    have e : tc.lv + 1 + g.rc = tc.lv + g.rc + 1 := by omega
    rw [e]
    exact mk this
/-- the law's own -/
theorem scr_of {H : Hp} {a : Addr} {ns : List Int} {Fz : Addr → Prop} (hO : Only H) (h : SqL C.K H a (ns.map V.int)) : Val C Fz H (.scr ns) (.ref a) := by
  simp only [Val]
  refine ⟨a, rfl, ?_⟩
  rcases h with (h | ⟨o, h⟩) | h
  · rcases hO a with z | ⟨o, xs, z⟩
    · rw [z] at h; cases h
    · rw [z] at h; cases h
  · exact .inl (.inr ⟨o, frzOf_mk h⟩)
  · exact .inr h
theorem spB_law {g : Mp.Sf} {rt : Nat} {H : Hp} {a : Addr} {ns : List Int} (hO : Only H) (h : SqL C.K H a (ns.map V.int)) (hg : g [.scr ns] = .ok (.bl true)) : spB C g [0] rt [.ref a] H (fun v _ => v = .bl true) fun _ _ _ => False := by
  refine ⟨[.scr ns], fun _ => False, [], ⟨.scr ns, [], .ref a, [], [], [], rfl, rfl, rfl, ⟨scr_of hO h, rfl⟩, rfl, rfl, rfl⟩, fun a h => h.elim, ?_⟩
  rw [hg]
  intro v H' Fz' A e r n f
  have r : Ow C Fz' H' rt (.bl true) v A := r
  have := Ow.rd rt _ v A r
  exact this.bl
end
end MpS

/-! MpPin: an __init__ does what its Mp does. -/
namespace MpS
open PySem PySem.Spec PyProof.Rows L2

/-! ### an __init__ -/
def G0i (g : Mp.F) : List Md := .sf :: (g.md.tail.map md0 ++ List.replicate (g.ns - g.np) (.ow 9))
structure DefI (K : PySem.W.Frag) (fd : FuncData) (scope : Scope) (body : List Stmt) (N ps : List Str) (tc : Tc) (g : Mp.F) : Prop where
  S : FnScope N ps scope
  bind : Binds K fd ps []
  hN : tc.N = N
  np : g.np = ps.length
  ns : g.ns = N.length
  md : ∃ m ms, g.md = m :: ms ∧ ps.length = ms.length + 1
  nn : ∀ x ∈ N, (x == ("__debug__" : Str)) = false ∧ (x == ("__classdict__" : Str)) = false
  cold : tc.hot = false
  comp : ∃ n m, compSs tc n scope m body = g.body
  ck : ∃ G', chkSs ⟨g.md, g.rt⟩ true g.body ⟨none, none⟩ (G0i g) = some G' ∧ G'[0]? = some .sf
section
variable {P : Program} {w : World} {K : PySem.W.Frag} {mg : Str → Option Value} {base : Heap} {C : Cfg} {T : Tb}
theorem bi_startI {g : Mp.F} {N ps : List Str} {Fz : Addr → Prop} {H0 H : Hp} {ds : List Mp.D} {vs : List V} {A : List Addr} {c : Nat} {dx p : Addr} {m : Nat} {ms : List Nat} (hp : C.cur.pin = p) (hc : c < C.nc) (np : g.np = ps.length) (ns : g.ns = N.length) (md : g.md = m :: ms) (hl : ps.length = ms.length + 1) (hle : ps.length ≤ N.length)
    (h1 : H0 p = none) (h2 : H0 dx = none) (h3 : dx ≠ p) (hH : H = upd (upd H0 dx (.own p)) p (.ins (C.cad c) dx [])) (r : RsL C Fz H0 (ms.map Kd.rd) ds vs A) (trk : ∀ a, Fz a → ∃ o, H0 a = some o) :
    BI C (G0i g) Fz Fz H0 (Mp.D.ins c [] [] :: ds ++ List.replicate (g.ns - g.np) .un) (L2.start N (V.ref p :: vs)) H (fun i => if i = 0 then [p] else []) := by
  have hl2 := rsL_len r
  simp only [List.length_map] at hl2
  obtain ⟨_, hat⟩ := rsL_at r
  have same : Same H0 H := fun a o h => by
    rw [hH]
    have n1 : a ≠ p := fun z => by rw [z, h1] at h; cases h
    have n2 : a ≠ dx := fun z => by rw [z, h2] at h; cases h
    rw [upd_ne n1, upd_ne n2]
    exact h
  have ext : Ext Fz H0 Fz H := ⟨same, fun _ h => h, fun _ h => .inl h, fun a h => let ⟨o, e⟩ := trk a h; ⟨o, same a o e⟩⟩
  have lenG : (G0i g).length = N.length := by
    unfold G0i
    rw [md]
    simp only [List.tail_cons, List.length_cons, List.length_append, List.length_map, List.length_replicate]
    omega
  have lenS : (L2.start N (V.ref p :: vs)).length = N.length := by
    unfold L2.start
    simp only [List.length_append, List.length_map, List.length_replicate, List.length_cons]
    omega
  have hal : ∀ i b, (G0i g)[i]? = some (Md.al b) → False := fun i b h => by
    have := List.mem_of_getElem? h
    unfold G0i at this
    rcases List.mem_cons.mp this with z | z
    · cases z
    · rcases List.mem_append.mp z with z | z
      · obtain ⟨k, _, e⟩ := List.mem_map.mp z
        cases k <;> cases e
      · cases List.eq_of_mem_replicate z
  refine ⟨by rw [lenG, lenS], by rw [lenS]; simp only [List.length_append, List.length_cons, List.length_replicate]; omega, fun i m' d o e1 e2 e3 => ?_, fun i hi => ?_, fun i => ?_, fun i j a ha hb => ?_, fun i a ha => ?_, fun i b m h => (hal i b h).elim, ext⟩
  · cases i with
    | zero =>
      unfold G0i at e1
      simp only [List.getElem?_cons_zero, Option.some.injEq] at e1
      simp only [List.cons_append, List.getElem?_cons_zero, Option.some.injEq] at e2
      unfold L2.start at e3
      simp only [List.map_cons, List.cons_append, List.getElem?_cons_zero, Option.some.injEq] at e3
      subst e1 e2 e3
      refine .inr ⟨_, rfl, show V.ref p = V.ref C.cur.pin by rw [hp], ?_⟩
      refine ⟨p, dx, [], [], rfl, by rw [hH]; exact upd_same, ⟨hc, rfl, Nat.le_refl _, fun f x _ => rfl, fun _ _ => rfl⟩, rfl, ?_⟩
      simp only [ValL]
    | succ i =>
      unfold G0i at e1
      rw [md] at e1
      simp only [List.getElem?_cons_succ, List.tail_cons] at e1
      simp only [List.cons_append, List.getElem?_cons_succ] at e2
      unfold L2.start at e3
      simp only [List.map_cons, List.cons_append, List.getElem?_cons_succ] at e3
      by_cases hi : i < ms.length
      · rw [List.getElem?_append_left (by simp; omega), List.getElem?_map] at e1
        rw [List.getElem?_append_left (by omega)] at e2
        rw [List.getElem?_append_left (by simp; omega), List.getElem?_map] at e3
        obtain ⟨m1, g1, rfl⟩ := Option.map_eq_some_iff.mp e1
        obtain ⟨v, g3, rfl⟩ := Option.map_eq_some_iff.mp e3
        have q := hat i m1 d v g1 e2 g3
        refine .inr ⟨v, rfl, ?_⟩
        cases m1 with
        | zero => exact ⟨Val.keep (fun _ h => h) (.of same) _ _ q, rfl⟩
        | succ m => exact ⟨q, rfl⟩
      · rw [List.getElem?_append_right (by omega)] at e2
        exact .inl ⟨get_rep e2, by simp⟩
  · rw [lenS] at hi
    have : i ≠ 0 := by rintro rfl; omega
    simp [this]
  · by_cases e : i = 0
    · simp [e]
    · simp [e]
  · by_cases e : i = 0
    · by_cases e' : j = 0
      · omega
      · simp [e'] at hb
    · simp [e] at ha
  · by_cases e : i = 0
    · simp only [e, if_true, List.mem_singleton] at ha
      subst ha
      exact ⟨fun z => (by obtain ⟨o, ho⟩ := trk _ z; rw [h1] at ho; cases ho), h1⟩
    · simp [e] at ha
theorem ini_body {x qual : Str} {params : Arguments} {body : List Stmt} {scope : Scope} {f : Addr} {fd : FuncData} {N ps : List Str} {g : Mp.F} {tc : Tc} {k c m : Nat} {ms : List Nat} (F : FunD K x qual params body scope [] [] f fd) (D : DefI K fd scope body N ps tc g) (hKC : K = C.K) (hFN : C.FN = tc.T.FN) (hini : g.ini = true) (hmd : g.md = m :: ms)
    (TO : TOk P w K mg base C tc.T tc.lv) (RO : ROk P w K mg base C tc.T) (hk : tc.lv ≤ k) (hslf : tc.slf = none) : FnOk P w K mg base (L2.CX P w) (k + 1) f fd ps (spI C c (runB g fun _ => .bad) ms) := by
  obtain ⟨n, m0, hcomp⟩ := D.comp
  obtain ⟨G', hck, hG'⟩ := D.ck
  obtain ⟨m', ms', hmd', hl⟩ := D.md
  rw [hmd] at hmd'
  cases hmd'
  have hle : ps.length ≤ N.length := by
    have := congrArg List.length D.S.pre
    rw [List.length_take] at this
    omega
  refine F.ok D.S (fun vs H Q E h => ?_) fun cdv A outer s H vs Q E hr h => ?_
  · obtain ⟨p, dx, ds, us, Fz, A, H0, rfl, _, _, _, _, _, r, _⟩ := h
    rw [List.length_cons, (rsL_len r).2, List.length_map, hl]
  · obtain ⟨p, dx, ds, us, Fz, A1, H0, rfl, hc, h1, h2, h3, hH, r, trk, wg⟩ := h
    have so := sOk_def (P := P) (w := w) (mg := mg) (base := base) (outer := outer) (C := C.wth ⟨p, p, .none, none⟩) (H := H) (E := E) (sf := fun _ => .bad) (sg := ⟨g.md, g.rt⟩) hKC hFN D.hN D.S.nd D.S.kind D.nn hr hk D.cold TO.pin RO.pin (fun x hx => by rw [hslf] at hx; cases hx)
    rw [← hcomp] at hck
    refine ⟨_, ss_all so m0 body ⟨none, none⟩ (G0i g) G' hck, Fz, Fz, H0, Mp.D.ins c [] [] :: ds ++ List.replicate (g.ns - g.np) .un, _, bi_startI (C := C.wth ⟨p, p, .none, none⟩) (p := p) rfl hc D.np D.ns hmd hl hle h1 h2 h3 hH (by rw [rsL_eq]; exact r) trk, ?_⟩
    rw [hcomp]
    have hl' : (Mp.D.ins c [] [] :: ds).length = g.np := by rw [List.length_cons, (rsL_len r).1, List.length_map, D.np, hl]
    have e : runB g (fun _ => .bad) (Mp.D.ins c [] [] :: ds) = Mp.endO true (Mp.execs g.body (fun _ => .bad) (Mp.D.ins c [] [] :: ds ++ List.replicate (g.ns - g.np) .un)) := by
      unfold runB
      rw [if_pos hl', hini]
    rw [e] at wg
    show OutW (C.wth ⟨p, p, .none, none⟩) (fun cls dx _ H => E cls dx H) { nx := fun _ H' => Q .non H', rt := Q } Fz H0 g.rt ⟨none, none⟩ G' Fz H (Mp.execs g.body (fun _ => .bad) (Mp.D.ins c [] [] :: ds ++ List.replicate (g.ns - g.np) .un))
    cases hx : Mp.execs g.body (fun _ => Mp.R.bad) (Mp.D.ins c [] [] :: ds ++ List.replicate (g.ns - g.np) .un) with
    | nx env =>
      rw [hx] at wg
      intro σ' H' Fz' As' ev b
      have wg : Wg C E Fz H0 (Mp.getE env 0) _ := wg
      cases h0 : Mp.getE env 0 with
      | bad => rw [h0] at wg; exact (show False from wg).elim
      | exc d => exact absurd h0 getE_exc
      | ok d =>
        rw [h0] at wg
        obtain ⟨h0, hd⟩ := getE_ok h0
        obtain ⟨v, _, hpin, ow⟩ := b.look hG' h0 hd
        rw [hpin, ow_eq] at ow
        exact wg H' Fz' (As' 0) b.ext ow (b.nd 0) fun a ha => ⟨(b.own 0 a ha).2, (b.own 0 a ha).1⟩
    | rt d env => rw [hx] at wg; exact (show False from wg).elim
    | ex d env =>
      rw [hx] at wg
      have wg : XW C E Fz H0 d := wg
      intro σ' H' Fz' As' G1 _ ev b cls dx H2 Fz2 e2 xr
      rw [xRep_eq] at xr
      exact wg cls dx H2 Fz2 (b.ext.trans e2) xr
    | br env => rw [hx] at wg; exact (show False from wg).elim
    | ct env => rw [hx] at wg; exact (show False from wg).elim
    | bad => rw [hx] at wg; exact (show False from wg).elim
end
end MpS

/-! MpTab: the table of a program's defs; its head's facts; a law's end. -/
namespace MpS
open PySem PySem.Spec PyProof.Rows L2

section
variable {P : Program} {w : World} {K : PySem.W.Frag} {mg : Str → Option Value} {base : Heap} {C : Cfg} {T : Tb}
/-- what the table's head says -/
structure HOk0 (K : PySem.W.Frag) (mg : Str → Option Value) (C : Cfg) (T : Tb) : Prop where
  hK : K = C.K
  FN : C.FN = T.FN
  fnd : T.FN.Nodup
  att : ∀ c, c < C.nc → ClsF C c
  isi : ∀ c, c < C.nc → ClsI C c
  ty : ∀ x y, tyOf T x = some y → TyO mg C x y
  blt : ∀ x ∈ bltNames, mg x = none
  xc : ∀ c, c < C.nx → XcF C c
  xi : ∀ x k, xiOf T x = some k → XiF mg C x k
  xm : ∀ c, c < C.nx → XmF C c
  xk : ∀ x k, xkOf T x = some k → ∃ hv, mg x = some hv ∧ (x == ("__debug__" : Str)) = false ∧ ∀ c, c < C.nx → PySem.W.exmOne C.K (.ref (C.xad c)) hv = some (Mp.hitX k c)
  xg : ∀ x k, T.xbs.lookup x = some k → ∃ G, GeF K mg x G
/-- an exception's class, its __init__ -/
def XcD (K : PySem.W.Frag) (mg : Str → Option Value) (C : Cfg) (T : Tb) (e : EntX) : Prop := mg e.nm = some (.ref (C.xad e.c)) ∧ (e.nm == ("__debug__" : Str)) = false ∧ e.c < C.nx ∧ (e.fs = [] → e.fm = [] ∧ PySem.W.excIn K (C.xad e.c) PySem.HandSPX.veTail "ValueError.__new__" = true ∧ PySem.W.keepIn K (.ref (C.xad e.c)) = true) ∧
  (e.fs ≠ [] → ∃ xb kk fI fd x qual params body scope ps, T.xbs.lookup xb = some kk ∧ FunD K x qual params body scope [] [] fI fd ∧ PySem.W.findIn K (.ref (C.xad e.c)) "__init__" = some (some (.ref fI)) ∧ PySem.W.typeIn K (.ref fI) = some (.type "function") ∧ FnScope ps ps scope ∧ Binds K fd ps [] ∧
    scope.names.lookup xb = some .globalImplicit ∧ (∀ x ∈ ps, (scope.names.lookup x = some .local ∨ scope.names.lookup x = some .cell) ∧ (x == ("__debug__" : Str)) = false ∧ (x == ("__classdict__" : Str)) = false) ∧ okX C.FN xb ps body e.fs e.fm = true)
/-- a def of the module -/
def FnD (K : PySem.W.Frag) (mg : Str → Option Value) (T : Tb) (e : Ent) : Prop := ∃ f fd x qual params body scope N ps tc, FunD K x qual params body scope [] [] f fd ∧ DefS K f fd qual body scope N ps tc e.f ∧ tc.T = T ∧ e.f.ini = false ∧ mg e.nm = some (.ref f) ∧ (e.nm == ("__debug__" : Str)) = false ∧ e.lv = tc.lv + 1 + e.f.rc ∧ (tc.slf = none ∧ e.f.rc = 0 ∨ tc.slf = some e.nm)
/-- a class's __init__ -/
def MkD (K : PySem.W.Frag) (mg : Str → Option Value) (C : Cfg) (T : Tb) (e : EntC) : Prop := ∃ f fd x qual params body scope N ps tc, FunD K x qual params body scope [] [] f fd ∧ DefI K fd scope body N ps tc e.f ∧ tc.T = T ∧ e.f.ini = true ∧ mg e.nm = some (.ref (C.cad e.c)) ∧ Mk K (C.cad e.c) f ∧ e.c < C.nc ∧ (e.nm == ("__debug__" : Str)) = false ∧ e.lv = tc.lv + 1 ∧ tc.slf = none ∧ e.f.rc = 0
/-- a method -/
def MtD (K : PySem.W.Frag) (C : Cfg) (T : Tb) (e : EntC) : Prop := ∃ f fd x qual params body scope N ps tc, FunD K x qual params body scope [] [] f fd ∧ DefS K f fd qual body scope N ps tc e.f ∧ tc.T = T ∧ e.f.ini = false ∧ Meth K (C.cad e.c) e.nm f ∧ e.c < C.nc ∧ e.lv = tc.lv + 1 ∧ tc.slf = none ∧ e.f.rc = 0
inductive AllP {a : Type} (p : a → Prop) : List a → Prop where
  | nil : AllP p []
  | cons {x : a} {l : List a} : p x → AllP p l → AllP p (x :: l)
theorem AllP.mem {a : Type} {p : a → Prop} {l : List a} (h : AllP p l) : ∀ x ∈ l, p x := by
  induction h with
  | nil => intro x hx; cases hx
  | cons h _ ih =>
    intro x hx
    rcases List.mem_cons.mp hx with rfl | hx
    · exact h
    · exact ih x hx
theorem mem_entX {x : Str} : ∀ {l : List EntX} {e : EntX}, entXOf x l = some e → e ∈ l ∧ e.nm = x
  | [], _, h => by cases h
  | y :: ys, e, h => by
    unfold entXOf at h
    split at h
    · rename_i q; cases h; exact ⟨List.mem_cons_self, q⟩
    · obtain ⟨h1, h2⟩ := mem_entX h; exact ⟨List.mem_cons_of_mem _ h1, h2⟩
theorem rOk_all (h0 : HOk0 K mg C T) (hx : AllP (XcD K mg C T) T.xcl) : ROk P w K mg base C T := by
  refine ⟨fun x e he => ?_, h0.xk⟩
  obtain ⟨hmem, rfl⟩ := mem_entX he
  obtain ⟨h1, h2, h3, h4, h5⟩ := hx.mem e hmem
  refine ⟨h1, h2, h3, h0.xm _ h3, h4, fun hne => ?_⟩
  obtain ⟨xb, kk, fI, fd, x, qual, params, body, scope, ps, g1, F, g2, g3, S, hb, gl, hloc, ok⟩ := h5 hne
  obtain ⟨G, GF⟩ := h0.xg _ _ g1
  exact ⟨fI, fd, ps, g2, g3, xini_ok F S h0.hK (by rw [h0.FN]; exact h0.fnd) (h0.xm _ h3) GF gl hloc ok, hb⟩
theorem tOk_all (h0 : HOk0 K mg C T) (hx : AllP (XcD K mg C T) T.xcl) (hf : AllP (FnD K mg T) T.fns) (hc : AllP (MkD K mg C T) T.cls) (hm : AllP (MtD K C T) T.mts) : ∀ lv, TOk P w K mg base C T lv := by
  have RO0 : ROk P w K mg base C T := rOk_all h0 hx
  intro lv
  induction lv using Nat.strongRecOn with
  | ind lv ih =>
    refine ⟨fun x e he hlt => ?_, fun x e he hlt => ?_, fun m e he hn hlt => ?_, h0.fnd, fun _ => h0.att, h0.isi, h0.ty, h0.blt, h0.xc, h0.xi⟩
    · obtain ⟨hmem, rfl⟩ := mem_entOf he
      obtain ⟨f, fd, x, qual, params, body, scope, N, ps, tc, F, D, hT, hini, hmg, hnd, hlv, hs⟩ := hf.mem e hmem
      have TO : TOk P w K mg base C tc.T tc.lv := by rw [hT]; exact ih tc.lv (by omega)
      have RO : ROk P w K mg base C tc.T := by rw [hT]; exact RO0
      exact fnF_of F D h0.hK (by rw [hT]; exact h0.FN) hini hmg hnd hlv hs TO RO
    · obtain ⟨hmem, rfl⟩ := mem_entC he
      obtain ⟨f, fd, x, qual, params, body, scope, N, ps, tc, F, D, hT, hini, hmg, hM, hnc, hnd, hlv, hs, hrc⟩ := hc.mem e hmem
      have TO : TOk P w K mg base C tc.T tc.lv := by rw [hT]; exact ih tc.lv (by omega)
      have RO : ROk P w K mg base C tc.T := by rw [hT]; exact RO0
      obtain ⟨m, ms, hmd, hl⟩ := D.md
      refine ⟨m, ms, hmd, ⟨⟨f, fd, ps, hmg, hM, D.bind, ?_⟩, hnc, hnd⟩⟩
      have := ini_body (c := e.c) (k := tc.lv) F D h0.hK (by rw [hT]; exact h0.FN) hini hmd TO RO (Nat.le_refl _) hs
      rw [run_rec, hrc, hlv]
      exact this
    · obtain ⟨f, fd, x, qual, params, body, scope, N, ps, tc, F, D, hT, hini, hM, hnc, hlv, hs, hrc⟩ := hm.mem e he
      have TO : TOk P w K mg base C tc.T tc.lv := by rw [hT]; exact ih tc.lv (by omega)
      have RO : ROk P w K mg base C tc.T := by rw [hT]; exact RO0
      refine ⟨⟨f, fd, ps, by rw [← hn]; exact hM, D.bind, ?_⟩, h0.att _ hnc⟩
      have := fn_body (k := tc.lv) (sf := fun _ => .bad) F D h0.hK (by rw [hT]; exact h0.FN) hini TO RO (Nat.le_refl _) (fun x hx => by rw [hs] at hx; cases hx)
      rw [run_rec, hrc, hlv]
      exact this
end

/-! ### the head's facts, by one test -/
def tyN : List (Str × Mp.Ty × String) := [("int", .int, "int"), ("bool", .bool, "bool"), ("list", .list, "list"), ("tuple", .tuple, "tuple"), ("str", .str, "str")]
def frN : List Str := bltNames ++ [("bool" : Str), ("str" : Str), ("ValueError" : Str)]
/-- the classes by number -/
def cadOf (cls : List Str) (K : PySem.W.Frag) (c : Nat) : Addr := He.ga K (cls.getD c "")
def cfgOf (FN cls xcs : List Str) (K : PySem.W.Frag) : Cfg := ⟨K, cadOf cls K, cls.length, FN, cadOf xcs K, xcs.length, ⟨0, 0, .none, none⟩⟩
def kO (K : PySem.W.Frag) (t u : Value) (b : Bool) : Bool := decide (PySem.W.kitOne K t u = some b)
def tyB (cls : List Str) (K : PySem.W.Frag) (y : Mp.Ty) (u : Value) : Bool :=
  kO K (.type "NoneType") u (Mp.isTy y .non) && kO K (.type "bool") u (Mp.isTy y (.bl true)) && kO K (.type "int") u (Mp.isTy y (.int 0)) && kO K (.type "str") u (Mp.isTy y (.str [])) && kO K (.type "tuple") u (Mp.isTy y (.tup [])) && kO K (.type "list") u (Mp.isTy y (.lst []))
  && (List.range cls.length).all fun c => kO K (.ref (cadOf cls K c)) u (Mp.isTy y (.ins c [] []))
def clsB (FN : List Str) (K : PySem.W.Frag) (x : Str) : Bool :=
  (He.Fa.cls x).ok K && FN.all (fun f => (He.Fa.noat x f).ok K) && He.eqO (PySem.W.findIn K (.ref (He.ga K x)) "__class__") (some (some (.builtin "object.__class__"))) && He.eqO (PySem.W.specialIn K (.builtin "object.__class__") "__get__") (some (some (.builtin "getset_descriptor.__get__")))
  && decide (PySem.W.takesIn K (.builtin "object.__class__") = some true) && decide (PySem.W.mroIn K (He.ga K x) (.type "object") = some true) && (He.Fa.glo x).ok K && !(x == ("__debug__" : Str))
/-- an own class over ValueError -/
def oexB (K : PySem.W.Frag) (a : Addr) : Bool := (match K.lookup a with
  | some ⟨.type ty, _, .cls q, w⟩ => (match q.mro, w.toList with
    | .ref b :: l, [_, _, _, _, some (.builtin n), _] => ty == "type" && b == a && n == "ValueError.__new__" && !q.hasDel && q.hasDict && PySem.HandSPX.refsVE l
    | _, _ => false)
  | _ => false) && He.eqO (PySem.W.findIn K (.ref a) "__setattr__") (some (some (.builtin "object.__setattr__"))) && decide (PySem.W.subIn K (.ref a) (.type "BaseException") = some true) && decide (PySem.W.typeIn K (.ref a) = some (.type "type")) && PySem.W.keepIn K (.ref a)
theorem oexB_ok {K : PySem.W.Frag} {a : Addr} (h : oexB K a = true) : OexC K a := by
  unfold oexB at h
  simp only [Bool.and_eq_true, decide_eq_true_eq] at h
  obtain ⟨⟨⟨⟨h1, h2⟩, h3⟩, h4⟩, h5⟩ := h
  refine ⟨?_, He.eqO_ok h2, h3, h4, h5⟩
  split at h1
  · rename_i ty dd q w hl
    split at h1
    · rename_i b l k0 k1 k2 k3 n k5 hm hs
      simp only [Bool.and_eq_true, beq_iff_eq, Bool.not_eq_true'] at h1
      obtain ⟨⟨⟨⟨⟨rfl, rfl⟩, rfl⟩, hdel⟩, hd⟩, hr⟩ := h1
      obtain ⟨nm, bs, mro, ns, qn, hd0, sn, sub, ab, col, del⟩ := q
      dsimp only at hm hdel hd
      subst hm hdel hd
      have hw : w = #[k0, k1, k2, k3, some (.builtin "ValueError.__new__"), k5] := by
        obtain ⟨wl⟩ := w
        simp only at hs
        rw [hs]
      subst hw
      exact ⟨nm, qn, ns, bs, l, sn, sub, ab, col, dd, k0, k1, k2, k3, k5, hl, hr⟩
    · cases h1
  · cases h1
def xcB (FN : List Str) (K : PySem.W.Frag) (a : Addr) : Bool :=
  oexB K a && xfB K a && FN.all (fun f => He.eqO (PySem.W.findIn K (.ref a) f) (some none)) && (PySem.W.clsIn K a).isSome && He.eqO (PySem.W.findIn K (.ref a) "__class__") (some (some (.builtin "object.__class__"))) && He.eqO (PySem.W.specialIn K (.builtin "object.__class__") "__get__") (some (some (.builtin "getset_descriptor.__get__")))
  && decide (PySem.W.takesIn K (.builtin "object.__class__") = some true) && decide (PySem.W.mroIn K a (.type "object") = some true)
def gefB (K : PySem.W.Frag) (x : Str) : Bool :=
  (He.Fa.glo x).ok K && !(x == ("__debug__" : Str)) && He.eqO (PySem.W.specialIn K (.ref (He.ga K x)) "__getattribute__") (some (some (.builtin "type.__getattribute__"))) && PySem.W.readsIn K (He.ga K x) (.type "type")
  && (match PySem.W.findCls K (.ref (He.ga K x)) (.type "type") "__init__" with | some (.val (.builtin n)) => n == "ValueError.__init__" | _ => false)
def xnB (xcs : List Str) (K : PySem.W.Frag) (q : Str × Nat) : Bool :=
  (He.Fa.glo q.1).ok K && !(q.1 == ("__debug__" : Str)) && (List.range xcs.length).all fun c => kO K (.ref (cadOf xcs K c)) (.ref (He.ga K q.1)) (Mp.hitX q.2 c) && decide (PySem.W.exmOne K (.ref (cadOf xcs K c)) (.ref (He.ga K q.1)) = some (Mp.hitX q.2 c))
def xsB (FN xcs : List Str) (xbs : List (Str × Nat)) (K : PySem.W.Frag) : Bool :=
  (List.range xcs.length).all (fun c => xcB FN K (cadOf xcs K c) && kO K (.ref (cadOf xcs K c)) (.type "ValueError") true) && (xcs.zipIdx ++ xbs).all (xnB xcs K) && xbs.all fun q => gefB K q.1
def hdB (FN cls xcs : List Str) (xbs : List (Str × Nat)) (K : PySem.W.Frag) : Bool :=
  xsB FN xcs xbs K && decide FN.Nodup && cls.all (clsB FN K) && (frN).all (fun x => (He.Fa.free x).ok K) && tyN.all (fun q => tyB cls K q.2.1 (.type q.2.2))
  && (List.range cls.length).all fun c => tyB cls K (.cls c) (.ref (cadOf cls K c))
theorem kO_ok {K : PySem.W.Frag} {t u : Value} {b : Bool} (h : kO K t u b = true) : PySem.W.kitOne K t u = some b := of_decide_eq_true h
section
variable {FN cls xcs : List Str} {xbs : List (Str × Nat)} {K : PySem.W.Frag} {h : Heap} {mg : Str → Option Value}
theorem tyB_ok {y : Mp.Ty} {u : Value} (c : tyB cls K y u = true) : TyF (cfgOf FN cls xcs K) y u := by
  unfold tyB at c
  simp only [Bool.and_eq_true, List.all_eq_true] at c
  obtain ⟨⟨⟨⟨⟨⟨c1, c2⟩, c3⟩, c4⟩, c5⟩, c6⟩, c7⟩ := c
  exact ⟨kO_ok c1, kO_ok c2, kO_ok c3, kO_ok c4, kO_ok c5, kO_ok c6, fun c hc => kO_ok (c7 c (List.mem_range.mpr hc))⟩
theorem cls_at {c : Nat} (hc : c < cls.length) : cls.getD c "" ∈ cls := by
  rw [List.getD_eq_getElem?_getD, List.getElem?_eq_getElem hc]
  exact List.getElem_mem hc
theorem clsB_ok {c : Nat} (hc : clsB FN K (cls.getD c "") = true) : ClsF (cfgOf FN cls xcs K) c ∧ ClsI (cfgOf FN cls xcs K) c := by
  unfold clsB at hc
  simp only [Bool.and_eq_true, List.all_eq_true] at hc
  obtain ⟨⟨⟨⟨⟨⟨⟨c1, c2⟩, c3⟩, c4⟩, c5⟩, c6⟩, c7⟩, c8⟩ := hc
  exact ⟨⟨He.cls_ok c1, fun f hf => He.noat_ok (c2 f hf)⟩, ⟨He.cls_ok c1, He.eqO_ok c3, He.eqO_ok c4, of_decide_eq_true c5, of_decide_eq_true c6⟩⟩
/-- the classes' names with their numbers -/
def kclOf (cls : List Str) : List (Str × Nat) := cls.zipIdx
theorem kcl_at {cls : List Str} {x : Str} {c : Nat} : ∀ {k : Nat}, (cls.zipIdx k).lookup x = some c → ∃ j, c = k + j ∧ cls[j]? = some x := by
  induction cls with
  | nil => intro k h; cases h
  | cons y ys ih =>
    intro k h
    rw [List.zipIdx_cons, List.lookup_cons] at h
    split at h
    · rename_i e
      cases h
      exact ⟨0, rfl, by rw [beq_iff_eq.mp e]; rfl⟩
    · obtain ⟨j, e, q⟩ := ih h
      exact ⟨j + 1, by omega, q⟩
theorem xcB_ok {c : Nat} (h : xcB FN K (cadOf xcs K c) = true) : XcF (cfgOf FN cls xcs K) c ∧ XmF (cfgOf FN cls xcs K) c := by
  unfold xcB at h
  simp only [Bool.and_eq_true, List.all_eq_true, decide_eq_true_eq] at h
  obtain ⟨⟨⟨⟨⟨⟨⟨h1, h2⟩, h3⟩, h4⟩, h5⟩, h6⟩, h7⟩, h8⟩ := h
  exact ⟨⟨xfB_ok h2, fun f hf => He.eqO_ok (h3 f hf), h4, He.eqO_ok h5, He.eqO_ok h6, h7, h8⟩, ⟨oexB_ok h1, fun f hf => He.eqO_ok (h3 f hf)⟩⟩
theorem gefB_ok (X : K.In h) (G : h.Ns mainGlobals mg) {x : Str} (c : gefB K x = true) : GeF K mg x (He.ga K x) := by
  unfold gefB at c
  simp only [Bool.and_eq_true, Bool.not_eq_true'] at c
  obtain ⟨⟨⟨⟨c1, c2⟩, c3⟩, c4⟩, c5⟩ := c
  refine ⟨He.glo_ok X G c1, c2, He.eqO_ok c3, c4, ?_⟩
  split at c5
  · rename_i n hn
    rw [hn, beq_iff_eq.mp c5]
  · cases c5
theorem lookup_memX {x : Str} {k : Nat} : ∀ {l : List (Str × Nat)}, l.lookup x = some k → (x, k) ∈ l
  | [], h => by cases h
  | q :: l, h => by
    obtain ⟨y, j⟩ := q
    rw [List.lookup_cons] at h
    split at h
    · rename_i e
      cases h
      rw [beq_iff_eq.mp e]
      exact List.mem_cons_self
    · exact List.mem_cons_of_mem _ (lookup_memX h)
theorem hd_ok {T : Tb} (X : K.In h) (G : h.Ns mainGlobals mg) (hFN : T.FN = FN) (hkcl : T.kcl = kclOf cls) (hxc : T.xcl.map (fun e => (e.nm, e.c)) = xcs.zipIdx) (hxb : T.xbs = xbs) (c : hdB FN cls xcs xbs K = true) : HOk0 K mg (cfgOf FN cls xcs K) T := by
  unfold hdB at c
  simp only [Bool.and_eq_true, List.all_eq_true] at c
  obtain ⟨⟨⟨⟨⟨c0, c1⟩, c2⟩, c3⟩, c4⟩, c5⟩ := c
  have nd : FN.Nodup := of_decide_eq_true c1
  have fr : ∀ x ∈ frN, mg x = none := fun x hx => He.free_ok X G (c3 x hx)
  unfold xsB at c0
  simp only [Bool.and_eq_true, List.all_eq_true, List.mem_range] at c0
  obtain ⟨⟨x1, x2⟩, x3⟩ := c0
  have xkm : ∀ x k, xkOf T x = some k → (x, k) ∈ xcs.zipIdx ++ xbs := fun x k hk => by
    unfold xkOf at hk
    split at hk
    · rename_i e he
      cases hk
      obtain ⟨hmem, rfl⟩ := mem_entX he
      refine List.mem_append_left _ ?_
      rw [← hxc]
      exact List.mem_map.mpr ⟨e, hmem, rfl⟩
    · rw [hxb] at hk
      exact List.mem_append_right _ (lookup_memX hk)
  have xnm : ∀ x k, (x, k) ∈ xcs.zipIdx ++ xbs → mg x = some (.ref (He.ga K x)) ∧ (x == ("__debug__" : Str)) = false ∧ ∀ c, c < xcs.length → PySem.W.kitOne K (.ref (cadOf xcs K c)) (.ref (He.ga K x)) = some (Mp.hitX k c) ∧ PySem.W.exmOne K (.ref (cadOf xcs K c)) (.ref (He.ga K x)) = some (Mp.hitX k c) := fun x k hm => by
    have q := x2 _ hm
    unfold xnB at q
    simp only [Bool.and_eq_true, Bool.not_eq_true', List.all_eq_true, List.mem_range, decide_eq_true_eq] at q
    obtain ⟨⟨q1, q2⟩, q3⟩ := q
    exact ⟨He.glo_ok X G q1, q2, fun c hc => ⟨kO_ok (q3 c hc).1, (q3 c hc).2⟩⟩
  have HX : (∀ c, c < (cfgOf FN cls xcs K).nx → XcF (cfgOf FN cls xcs K) c) ∧ (∀ x k, xiOf T x = some k → XiF mg (cfgOf FN cls xcs K) x k) ∧ (∀ c, c < (cfgOf FN cls xcs K).nx → XmF (cfgOf FN cls xcs K) c) ∧ (∀ x k, xkOf T x = some k → ∃ hv, mg x = some hv ∧ (x == ("__debug__" : Str)) = false ∧ ∀ c, c < (cfgOf FN cls xcs K).nx → PySem.W.exmOne (cfgOf FN cls xcs K).K (.ref ((cfgOf FN cls xcs K).xad c)) hv = some (Mp.hitX k c)) ∧ (∀ x k, T.xbs.lookup x = some k → ∃ G, GeF K mg x G) := by
    refine ⟨fun c hc => (xcB_ok (x1 c hc).1).1, fun x k hk => ?_, fun c hc => (xcB_ok (cls := cls) (x1 c hc).1).2, fun x k hk => ?_, fun x k hk => ?_⟩
    · unfold xiOf at hk
      split at hk
      · rename_i k' hk'
        cases hk
        obtain ⟨g1, g2, g3⟩ := xnm x k (xkm x k hk')
        exact ⟨⟨.ref (He.ga K x), .ref (He.ga K x), .own _, rfl, .inl g1, fun c hc => (g3 c hc).1⟩, g2⟩
      · split at hk
        · rename_i e
          cases hk
          subst e
          exact ⟨⟨.ty "ValueError", .type "ValueError", .ty _, rfl, .inr ⟨fr _ (by simp [frN, bltNames]), by first | rfl | decide +kernel, by decide⟩, fun c hc => kO_ok (x1 c hc).2⟩, by decide⟩
        · cases hk
    · obtain ⟨g1, g2, g3⟩ := xnm x k (xkm x k hk)
      exact ⟨_, g1, g2, fun c hc => (g3 c hc).2⟩
    · rw [hxb] at hk
      exact ⟨_, gefB_ok X G (x3 _ (lookup_memX hk))⟩
  obtain ⟨hx1, hx2, hx3, hx4, hx5⟩ := HX
  refine ⟨rfl, hFN.symm, by rw [hFN]; exact nd, fun c hc => (clsB_ok (c2 _ (cls_at hc))).1, fun c hc => (clsB_ok (c2 _ (cls_at hc))).2, fun x y hy => ?_, fun x hx => fr x (by unfold frN; exact List.mem_append_left _ hx), hx1, hx2, hx3, hx4, hx5⟩
  have one : ∀ (x : Str) (y : Mp.Ty) (n : String), (x, y, n) ∈ tyN → x ∈ frN → bootBuiltins x = some (.type n) → x ≠ "__name__" → (x == ("__debug__" : Str)) = false → TyO mg (cfgOf FN cls xcs K) x y := fun x y n hm hf hb hn hd =>
    ⟨⟨.ty n, .type n, tyB_ok (c4 _ hm), .ty n, rfl, .inr ⟨fr x hf, hb, hn⟩⟩, hd⟩
  unfold tyOf at hy
  split at hy
  · rename_i e; cases hy; subst e; exact one "int" .int "int" (by simp [tyN]) (by simp [frN, bltNames]) (by first | rfl | decide +kernel) (by decide) (by decide)
  · split at hy
    · rename_i e; cases hy; subst e; exact one "bool" .bool "bool" (by simp [tyN]) (by simp [frN, bltNames]) (by first | rfl | decide +kernel) (by decide) (by decide)
    · split at hy
      · rename_i e; cases hy; subst e; exact one "list" .list "list" (by simp [tyN]) (by simp [frN, bltNames]) (by first | rfl | decide +kernel) (by decide) (by decide)
      · split at hy
        · rename_i e; cases hy; subst e; exact one "tuple" .tuple "tuple" (by simp [tyN]) (by simp [frN, bltNames]) (by first | rfl | decide +kernel) (by decide) (by decide)
        · split at hy
          · rename_i e; cases hy; subst e; exact one "str" .str "str" (by simp [tyN]) (by simp [frN, bltNames]) (by first | rfl | decide +kernel) (by decide) (by decide)
          · obtain ⟨c, hc, rfl⟩ := Option.map_eq_some_iff.mp hy
            rw [hkcl] at hc
            obtain ⟨j, e, hj⟩ := kcl_at hc
            rw [Nat.zero_add] at e
            subst e
            have hlt : c < cls.length := (List.getElem?_eq_some_iff.mp hj).1
            have hx : cls.getD c "" = x := by rw [List.getD_eq_getElem?_getD, hj]; rfl
            have hcb := c2 x (hx ▸ cls_at hlt)
            unfold clsB at hcb
            simp only [Bool.and_eq_true, List.all_eq_true] at hcb
            obtain ⟨⟨_, c7⟩, c8⟩ := hcb
            have e : cadOf cls K c = He.ga K x := by unfold cadOf; rw [hx]
            refine ⟨⟨.ref (He.ga K x), .ref (He.ga K x), ?_, .own _, rfl, .inl (He.glo_ok X G c7)⟩, by simpa using c8⟩
            have := tyB_ok (FN := FN) (xcs := xcs) (c5 c (List.mem_range.mpr hlt))
            rw [e] at this
            exact this
end
/-! ### the Hook -/
def obsM (FN cls xcs : List Str) (xbs : List (Str × Nat)) (fa : List He.Fa) (fn : List He.DefD) (K : PySem.W.Frag) : He.AlD := (hdB FN cls xcs xbs K && (He.obsD fa fn K).1, (He.obsD fa fn K).2)
def SaysM (FN cls xcs : List Str) (xbs : List (Str × Nat)) (fa : List He.Fa) (fn : List He.DefD) (K : PySem.W.Frag) : Prop := obsM FN cls xcs xbs fa fn K = He.valD fn
def obsMG (FN cls xcs : List Str) (xbs : List (Str × Nat)) (n : Nat) (fa : List He.Fa) (fn : List He.DefD) (g : Addr → Option Obj) : He.AlD := obsM FN cls xcs xbs fa fn (He.frG g (He.asD g n ++ [cStatics]))
def hookM (FN cls xcs : List Str) (xbs : List (Str × Nat)) (n : Nat) (fa : List He.Fa) (fn : List He.DefD) : PySem.W.Hook where
  α := He.AlD
  obs := fun s => obsMG FN cls xcs xbs n fa fn s.heap.get?
  val := fun _ => He.valD fn
  says := fun _ h => ∃ K : PySem.W.Frag, K.In h ∧ SaysM FN cls xcs xbs fa fn K
  of := fun _ _ e => ⟨_, He.frG_in, e⟩
  keeps := fun _ _ _ ⟨K, hK, c⟩ k => ⟨K, PySem.W.Frag.In.keeps hK k, c⟩
theorem obsMG_eq {FN cls xcs : List Str} {xbs : List (Str × Nat)} {n : Nat} {fa : List He.Fa} {fn : List He.DefD} {g : Addr → Option Obj} {s : Shared} (h : ∀ a, g a = s.heap.get? a) : obsMG FN cls xcs xbs n fa fn g = (hookM FN cls xcs xbs n fa fn).obs s := by
  have e : g = s.heap.get? := funext h
  rw [e] <;> rfl
theorem SaysM.hd {FN cls xcs : List Str} {xbs : List (Str × Nat)} {fa : List He.Fa} {fn : List He.DefD} {K : PySem.W.Frag} (c : SaysM FN cls xcs xbs fa fn K) : hdB FN cls xcs xbs K = true := (He.ba (show (hdB FN cls xcs xbs K && (He.obsD fa fn K).1) = true from congrArg (fun z : He.AlD => z.1) c)).1
theorem SaysM.says {FN cls xcs : List Str} {xbs : List (Str × Nat)} {fa : List He.Fa} {fn : List He.DefD} {K : PySem.W.Frag} (c : SaysM FN cls xcs xbs fa fn K) : He.SaysD fa fn K := by
  have h1 := (He.ba (show (hdB FN cls xcs xbs K && (He.obsD fa fn K).1) = true from congrArg (fun z : He.AlD => z.1) c)).2
  have h2 : (obsM FN cls xcs xbs fa fn K).2 = (He.valD fn).2 := congrArg (fun z : He.AlD => z.2) c
  exact Prod.ext h1 h2
/-! ### the law -/
theorem law_fn {P : Program} {w : World} {K : PySem.W.Frag} {mg : Str → Option Value} {base : Heap} {C : Cfg} {T : Tb} (h0 : HOk0 K mg C T) (hf : AllP (FnD K mg T) T.fns) (hc : AllP (MkD K mg C T) T.cls) (hm : AllP (MtD K C T) T.mts) (hx : AllP (XcD K mg C T) T.xcl)
    {x qual : Str} {params : Arguments} {body : List Stmt} {scope : Scope} {f : Addr} {fd : FuncData} {N ps : List Str} {g : Mp.F} {tc : Tc} (F : FunD K x qual params body scope [] [] f fd) (D : DefS K f fd qual body scope N ps tc g) (hT : tc.T = T) (hini : g.ini = false) (hs : tc.slf = none) (hrc : g.rc = 0) :
    FnOk P w K mg base (L2.CX P w) (tc.lv + 1) f fd ps (spB C (Mp.run g) g.md g.rt) := by
  have TO : TOk P w K mg base C tc.T tc.lv := by rw [hT]; exact tOk_all h0 hx hf hc hm tc.lv
  have RO : ROk P w K mg base C tc.T := by rw [hT]; exact rOk_all h0 hx
  have := fn_body (k := tc.lv) (sf := fun _ => .bad) F D h0.hK (by rw [hT]; exact h0.FN) hini TO RO (Nat.le_refl _) (fun x hx => by rw [hs] at hx; cases hx)
  rw [run_rec, hrc]
  exact this
theorem ck_of {g : Mp.F} (h : (chkSs ⟨g.md, g.rt⟩ g.ini g.body ⟨none, none⟩ (G0 g)).isSome = true) : ∃ G', chkSs ⟨g.md, g.rt⟩ g.ini g.body ⟨none, none⟩ (G0 g) = some G' := Option.isSome_iff_exists.mp h
def isSf : Option (List Md) → Bool
  | some (.sf :: _) => true
  | _ => false
theorem ckIni_of {g : Mp.F} (h : isSf (chkSs ⟨g.md, g.rt⟩ true g.body ⟨none, none⟩ (G0i g)) = true) : ∃ G', chkSs ⟨g.md, g.rt⟩ true g.body ⟨none, none⟩ (G0i g) = some G' ∧ G'[0]? = some .sf := by
  generalize chkSs ⟨g.md, g.rt⟩ true g.body ⟨none, none⟩ (G0i g) = o at h
  match o, h with
  | some (.sf :: G), _ => exact ⟨_, rfl, rfl⟩
def bodyOf : Stmt → List Stmt
  | .ClassDef (body := b) .. => b
  | _ => []
theorem cx_no {P : Program} {w : World} (H : Hp) (s : Shared) (e : Value) (s' : Shared) : L2.CX P w [] H s (fun _ _ _ => False) e s' → False := fun ⟨_, _, _, _, _, _, _, _, _, _, _, _, h⟩ => h
/-- a law's end: what its def promises at each world -/
theorem walk_ofW {l : PySem.W.OpenLaw} {n k : Nat} {pv : Program} {lo : List Str} {XP : (Str → Option Value) → Heap → Prop} {YP : World → Heap → Prop} {d : DefRec} {cx : World → CXT} {x : Str}
    (h1 : l.most = some n) (h2 : n ≤ sizeLine) (h3 : d.params.defaults = []) (h4 : Room k callerA)
    (F : ∀ (w : World) (mg : Str → Option Value) (fa : Addr) (h : Heap), YP w h → h.Ns mainGlobals mg → mg d.name = some (.ref fa) → ∃ (K : PySem.W.Frag) (fd : FuncData) (sp : Sp), K.In h ∧
      (∀ (s : Shared) (u : Value), BindsTo s fd ⟨[u], []⟩ [(x, u)]) ∧ (∀ (H : Hp) (a : Addr) (ns : List Int), ns.length ≤ n → Only H → SqL K H a (ns.map V.int) → sp [.ref a] H (fun v _ => v = .bl true) fun _ _ _ => False) ∧
      ∀ base : Heap, K.In base → base.Ns mainGlobals mg → FnOk l.prog w K mg base (cx w) k fa fd [x] sp)
    (no : ∀ (w : World) (H : Hp) (s : Shared) (e : Value) (s' : Shared), cx w [] H s (fun _ _ _ => False) e s' → False) : PySem.W.WalkO pv lo XP YP l.row.toRowW d [] fun f vs => PySem.call f vs := by
  refine Att.attach_call h1 h3 fun w s₀ s₁ mg mb fa _ _ _ _ a vs ns G Y _ _ _ hmg obj iz len hg => ?_
  obtain ⟨K, fd, sp, KX, hb, hs, hF⟩ := F w mg fa _ Y G.T.g hmg
  exact law_call KX G.T.g G.T.b G.T.builtins G.T.nolimit hg obj iz (Nat.le_trans len h2) h4 hF hb (fun H z q => hs H a ns len z q) fun H e t => no w H s₁ e t
end MpS

set_option maxHeartbeats 0
open MpP
namespace Lk02
open PySem PySem.Spec PyProof.Rows L2 MpS

def top (i : Nat) : Stmt := PySem.Challenge.pw_meetonce_k02_net_refused.main.body.getD i (.Pass ⟨0, 0, 0, 0⟩)

def mth (i j : Nat) : Stmt := (bodyOf (top i)).getD j (.Pass ⟨0, 0, 0, 0⟩)

def FN : List Str := ([("at" : Str), ("first" : Str), ("second" : Str), ("widths" : Str), ("roads" : Str), ("starts" : Str), ("size" : Str), ("rows" : Str), ("links" : Str), ("backs" : Str), ("costs" : Str), ("least" : Str), ("pairs" : Str), ("start" : Str), ("end" : Str), ("goal" : Str), ("index" : Str), ("cheaper" : Str), ("line" : Str), ("split" : Str), ("meeting" : Str), ("place" : Str), ("net" : Str), ("kept" : Str), ("next_rows" : Str), ("previous_rows" : Str), ("routes" : Str), ("lower" : Str), ("upper" : Str), ("limit" : Str)] : List Str) ++ ([("spans" : Str), ("further" : Str), ("stands" : Str), ("runs" : Str), ("version" : Str), ("versions" : Str), ("used" : Str), ("first_net" : Str), ("closed" : Str), ("wishes" : Str), ("awake" : Str), ("book" : Str), ("done" : Str), ("undone" : Str), ("past" : Str)] : List Str)

def cls : List Str := ([("Net" : Str)] : List Str)

def xcs : List Str := ([("BadNet" : Str), ("RoadsCross" : Str), ("NoRoad" : Str)] : List Str)

def xbs : List (Str × Nat) := [("GuideError", 999)]

def T : Tb := ⟨FN, [⟨"_law_cell", F__law_cell, 2⟩,
    ⟨"_law_draws", F__law_draws, 2⟩,
    ⟨"_law_widths", F__law_widths, 2⟩,
    ⟨"_law_price", F__law_price, 2⟩,
    ⟨"_law_roads", F__law_roads, 4⟩,
    ⟨"_law_mixed", F__law_mixed, 2⟩,
    ⟨"_law_new_road", F__law_new_road, 2⟩,
    ⟨"_law_rows", F__law_rows, 2⟩,
    ⟨"_law_scan", F__law_scan, 2⟩,
    ⟨"starts_of", F_starts_of, 2⟩,
    ⟨"rows_of", F_rows_of, 2⟩,
    ⟨"joins_rows", F_joins_rows, 2⟩,
    ⟨"is_double", F_is_double, 2⟩,
    ⟨"do_cross", F_do_cross, 2⟩,
    ⟨"first_crossed", F_first_crossed, 4⟩,
    ⟨"check_roads", F_check_roads, 6⟩,
    ⟨"links_of", F_links_of, 2⟩,
    ⟨"lower_line", F_lower_line, 2⟩,
    ⟨"least_prices", F_least_prices, 4⟩,
    ⟨"pairs_of", F_pairs_of, 2⟩,
    ⟨"_law_made", F__law_made, 11⟩,
    ⟨"_law_same", F__law_same, 10⟩,
    ⟨"_law_kinds", F__law_kinds, 11⟩],
  [⟨"Net", 0, F_Net___init__, 8⟩],
  [], [], [], kclOf cls, [⟨"BadNet", 0, [0], [true]⟩, ⟨"RoadsCross", 1, [1, 2], [true, true]⟩, ⟨"NoRoad", 2, [13, 14], [true, true]⟩], xbs⟩

def tc__law_cell : Tc := ⟨T, [("script" : Str), ("k" : Str)], 1, none, [], [], [], false⟩

theorem d__law_cell {K : PySem.W.Frag} {f : Addr} {fd : FuncData} (F : FunD K "_law_cell" "_law_cell" (defArgs (top 20)) (defBody (top 20)) (defScope (top 20)) [] [] f fd) : DefS K f fd "_law_cell" (defBody (top 20)) (defScope (top 20)) [("script" : Str), ("k" : Str)] [("script" : Str), ("k" : Str)] tc__law_cell F__law_cell :=
  ⟨⟨rfl, rfl, rfl, by decide +kernel, rfl, by decide +kernel, by decide +kernel⟩, F.bindsN fun _ _ _ _ _ _ us hl => match us, hl with | [_, _], _ => rfl, rfl, rfl, rfl, rfl, by decide +kernel, rfl, ⟨60, 200, by kernel_rfl⟩, ck_of (by kernel_rfl)⟩

def tc__law_draws : Tc := ⟨T, [("cell" : Str), ("many" : Str), ("rest" : Str), ("draws" : Str), ("k" : Str), ("mixed" : Str)], 1, none, [], [], [], false⟩

theorem d__law_draws {K : PySem.W.Frag} {f : Addr} {fd : FuncData} (F : FunD K "_law_draws" "_law_draws" (defArgs (top 21)) (defBody (top 21)) (defScope (top 21)) [] [] f fd) : DefS K f fd "_law_draws" (defBody (top 21)) (defScope (top 21)) [("cell" : Str), ("many" : Str), ("rest" : Str), ("draws" : Str), ("k" : Str), ("mixed" : Str)] [("cell" : Str), ("many" : Str)] tc__law_draws F__law_draws :=
  ⟨⟨rfl, rfl, rfl, by decide +kernel, rfl, by decide +kernel, by decide +kernel⟩, F.bindsN fun _ _ _ _ _ _ us hl => match us, hl with | [_, _], _ => rfl, rfl, rfl, rfl, rfl, by decide +kernel, rfl, ⟨60, 200, by kernel_rfl⟩, ck_of (by kernel_rfl)⟩

def tc__law_widths : Tc := ⟨T, [("draws" : Str), ("small" : Str), ("form" : Str), ("rows" : Str), ("r" : Str)], 1, none, [], [], [], false⟩

theorem d__law_widths {K : PySem.W.Frag} {f : Addr} {fd : FuncData} (F : FunD K "_law_widths" "_law_widths" (defArgs (top 22)) (defBody (top 22)) (defScope (top 22)) [] [] f fd) : DefS K f fd "_law_widths" (defBody (top 22)) (defScope (top 22)) [("draws" : Str), ("small" : Str), ("form" : Str), ("rows" : Str), ("r" : Str)] [("draws" : Str), ("small" : Str)] tc__law_widths F__law_widths :=
  ⟨⟨rfl, rfl, rfl, by decide +kernel, rfl, by decide +kernel, by decide +kernel⟩, F.bindsN fun _ _ _ _ _ _ us hl => match us, hl with | [_, _], _ => rfl, rfl, rfl, rfl, rfl, by decide +kernel, rfl, ⟨60, 200, by kernel_rfl⟩, ck_of (by kernel_rfl)⟩

def tc__law_price : Tc := ⟨T, [("mode" : Str), ("part" : Str)], 1, none, [], [], [], false⟩

theorem d__law_price {K : PySem.W.Frag} {f : Addr} {fd : FuncData} (F : FunD K "_law_price" "_law_price" (defArgs (top 23)) (defBody (top 23)) (defScope (top 23)) [] [] f fd) : DefS K f fd "_law_price" (defBody (top 23)) (defScope (top 23)) [("mode" : Str), ("part" : Str)] [("mode" : Str), ("part" : Str)] tc__law_price F__law_price :=
  ⟨⟨rfl, rfl, rfl, by decide +kernel, rfl, by decide +kernel, by decide +kernel⟩, F.bindsN fun _ _ _ _ _ _ us hl => match us, hl with | [_, _], _ => rfl, rfl, rfl, rfl, rfl, by decide +kernel, rfl, ⟨60, 200, by kernel_rfl⟩, ck_of (by kernel_rfl)⟩

def tc__law_roads : Tc := ⟨T, [("widths" : Str), ("draws" : Str), ("mode" : Str), ("roads" : Str), ("first" : Str), ("at" : Str), ("r" : Str), ("a" : Str), ("b" : Str), ("above" : Str), ("step" : Str)], 3, none, [], [], [], false⟩

theorem d__law_roads {K : PySem.W.Frag} {f : Addr} {fd : FuncData} (F : FunD K "_law_roads" "_law_roads" (defArgs (top 24)) (defBody (top 24)) (defScope (top 24)) [] [] f fd) : DefS K f fd "_law_roads" (defBody (top 24)) (defScope (top 24)) [("widths" : Str), ("draws" : Str), ("mode" : Str), ("roads" : Str), ("first" : Str), ("at" : Str), ("r" : Str), ("a" : Str), ("b" : Str), ("above" : Str), ("step" : Str)] [("widths" : Str), ("draws" : Str)] tc__law_roads F__law_roads :=
  ⟨⟨rfl, rfl, rfl, by decide +kernel, rfl, by decide +kernel, by decide +kernel⟩, F.bindsN fun _ _ _ _ _ _ us hl => match us, hl with | [_, _], _ => rfl, rfl, rfl, rfl, rfl, by decide +kernel, rfl, ⟨60, 200, by kernel_rfl⟩, ck_of (by kernel_rfl)⟩

def tc__law_mixed : Tc := ⟨T, [("roads" : Str), ("draws" : Str), ("rest" : Str), ("mixed" : Str), ("k" : Str)], 1, none, [], [], [], false⟩

theorem d__law_mixed {K : PySem.W.Frag} {f : Addr} {fd : FuncData} (F : FunD K "_law_mixed" "_law_mixed" (defArgs (top 27)) (defBody (top 27)) (defScope (top 27)) [] [] f fd) : DefS K f fd "_law_mixed" (defBody (top 27)) (defScope (top 27)) [("roads" : Str), ("draws" : Str), ("rest" : Str), ("mixed" : Str), ("k" : Str)] [("roads" : Str), ("draws" : Str)] tc__law_mixed F__law_mixed :=
  ⟨⟨rfl, rfl, rfl, by decide +kernel, rfl, by decide +kernel, by decide +kernel⟩, F.bindsN fun _ _ _ _ _ _ us hl => match us, hl with | [_, _], _ => rfl, rfl, rfl, rfl, rfl, by decide +kernel, rfl, ⟨60, 200, by kernel_rfl⟩, ck_of (by kernel_rfl)⟩

def tc__law_new_road : Tc := ⟨T, [("widths" : Str), ("roads" : Str), ("draws" : Str), ("at" : Str), ("size" : Str), ("kind" : Str), ("outside" : Str), ("price" : Str), ("road" : Str), ("row" : Str), ("low" : Str), ("high" : Str)], 1, none, [], [], [], false⟩

theorem d__law_new_road {K : PySem.W.Frag} {f : Addr} {fd : FuncData} (F : FunD K "_law_new_road" "_law_new_road" (defArgs (top 28)) (defBody (top 28)) (defScope (top 28)) [] [] f fd) : DefS K f fd "_law_new_road" (defBody (top 28)) (defScope (top 28)) [("widths" : Str), ("roads" : Str), ("draws" : Str), ("at" : Str), ("size" : Str), ("kind" : Str), ("outside" : Str), ("price" : Str), ("road" : Str), ("row" : Str), ("low" : Str), ("high" : Str)] [("widths" : Str), ("roads" : Str), ("draws" : Str), ("at" : Str)] tc__law_new_road F__law_new_road :=
  ⟨⟨rfl, rfl, rfl, by decide +kernel, rfl, by decide +kernel, by decide +kernel⟩, F.bindsN fun _ _ _ _ _ _ us hl => match us, hl with | [_, _, _, _], _ => rfl, rfl, rfl, rfl, rfl, by decide +kernel, rfl, ⟨60, 200, by kernel_rfl⟩, ck_of (by kernel_rfl)⟩

def tc__law_rows : Tc := ⟨T, [("widths" : Str), ("rows" : Str), ("r" : Str)], 1, none, [], [], [], false⟩

theorem d__law_rows {K : PySem.W.Frag} {f : Addr} {fd : FuncData} (F : FunD K "_law_rows" "_law_rows" (defArgs (top 25)) (defBody (top 25)) (defScope (top 25)) [] [] f fd) : DefS K f fd "_law_rows" (defBody (top 25)) (defScope (top 25)) [("widths" : Str), ("rows" : Str), ("r" : Str)] [("widths" : Str)] tc__law_rows F__law_rows :=
  ⟨⟨rfl, rfl, rfl, by decide +kernel, rfl, by decide +kernel, by decide +kernel⟩, F.bindsN fun _ _ _ _ _ _ us hl => match us, hl with | [_], _ => rfl, rfl, rfl, rfl, rfl, by decide +kernel, rfl, ⟨60, 200, by kernel_rfl⟩, ck_of (by kernel_rfl)⟩

def tc__law_scan : Tc := ⟨T, [("rows" : Str), ("roads" : Str), ("k" : Str), ("road" : Str), ("j" : Str), ("other" : Str)], 1, none, [], [], [], false⟩

theorem d__law_scan {K : PySem.W.Frag} {f : Addr} {fd : FuncData} (F : FunD K "_law_scan" "_law_scan" (defArgs (top 29)) (defBody (top 29)) (defScope (top 29)) [] [] f fd) : DefS K f fd "_law_scan" (defBody (top 29)) (defScope (top 29)) [("rows" : Str), ("roads" : Str), ("k" : Str), ("road" : Str), ("j" : Str), ("other" : Str)] [("rows" : Str), ("roads" : Str)] tc__law_scan F__law_scan :=
  ⟨⟨rfl, rfl, rfl, by decide +kernel, rfl, by decide +kernel, by decide +kernel⟩, F.bindsN fun _ _ _ _ _ _ us hl => match us, hl with | [_, _], _ => rfl, rfl, rfl, rfl, rfl, by decide +kernel, rfl, ⟨60, 200, by kernel_rfl⟩, ck_of (by kernel_rfl)⟩

def tc_starts_of : Tc := ⟨T, [("widths" : Str), ("starts" : Str), ("width" : Str)], 1, none, [], [], [], false⟩

theorem d_starts_of {K : PySem.W.Frag} {f : Addr} {fd : FuncData} (F : FunD K "starts_of" "starts_of" (defArgs (top 8)) (defBody (top 8)) (defScope (top 8)) [] [] f fd) : DefS K f fd "starts_of" (defBody (top 8)) (defScope (top 8)) [("widths" : Str), ("starts" : Str), ("width" : Str)] [("widths" : Str)] tc_starts_of F_starts_of :=
  ⟨⟨rfl, rfl, rfl, by decide +kernel, rfl, by decide +kernel, by decide +kernel⟩, F.bindsN fun _ _ _ _ _ _ us hl => match us, hl with | [_], _ => rfl, rfl, rfl, rfl, rfl, by decide +kernel, rfl, ⟨60, 200, by kernel_rfl⟩, ck_of (by kernel_rfl)⟩

def tc_rows_of : Tc := ⟨T, [("starts" : Str), ("rows" : Str), ("row" : Str), ("_" : Str)], 1, none, [], [], [], false⟩

theorem d_rows_of {K : PySem.W.Frag} {f : Addr} {fd : FuncData} (F : FunD K "rows_of" "rows_of" (defArgs (top 9)) (defBody (top 9)) (defScope (top 9)) [] [] f fd) : DefS K f fd "rows_of" (defBody (top 9)) (defScope (top 9)) [("starts" : Str), ("rows" : Str), ("row" : Str), ("_" : Str)] [("starts" : Str)] tc_rows_of F_rows_of :=
  ⟨⟨rfl, rfl, rfl, by decide +kernel, rfl, by decide +kernel, by decide +kernel⟩, F.bindsN fun _ _ _ _ _ _ us hl => match us, hl with | [_], _ => rfl, rfl, rfl, rfl, rfl, by decide +kernel, rfl, ⟨60, 200, by kernel_rfl⟩, ck_of (by kernel_rfl)⟩

def tc_joins_rows : Tc := ⟨T, [("rows" : Str), ("road" : Str)], 1, none, [], [], [], false⟩

theorem d_joins_rows {K : PySem.W.Frag} {f : Addr} {fd : FuncData} (F : FunD K "joins_rows" "joins_rows" (defArgs (top 11)) (defBody (top 11)) (defScope (top 11)) [] [] f fd) : DefS K f fd "joins_rows" (defBody (top 11)) (defScope (top 11)) [("rows" : Str), ("road" : Str)] [("rows" : Str), ("road" : Str)] tc_joins_rows F_joins_rows :=
  ⟨⟨rfl, rfl, rfl, by decide +kernel, rfl, by decide +kernel, by decide +kernel⟩, F.bindsN fun _ _ _ _ _ _ us hl => match us, hl with | [_, _], _ => rfl, rfl, rfl, rfl, rfl, by decide +kernel, rfl, ⟨60, 200, by kernel_rfl⟩, ck_of (by kernel_rfl)⟩

def tc_is_double : Tc := ⟨T, [("earlier" : Str), ("road" : Str), ("other" : Str)], 1, none, [], [], [], false⟩

theorem d_is_double {K : PySem.W.Frag} {f : Addr} {fd : FuncData} (F : FunD K "is_double" "is_double" (defArgs (top 12)) (defBody (top 12)) (defScope (top 12)) [] [] f fd) : DefS K f fd "is_double" (defBody (top 12)) (defScope (top 12)) [("earlier" : Str), ("road" : Str), ("other" : Str)] [("earlier" : Str), ("road" : Str)] tc_is_double F_is_double :=
  ⟨⟨rfl, rfl, rfl, by decide +kernel, rfl, by decide +kernel, by decide +kernel⟩, F.bindsN fun _ _ _ _ _ _ us hl => match us, hl with | [_, _], _ => rfl, rfl, rfl, rfl, rfl, by decide +kernel, rfl, ⟨60, 200, by kernel_rfl⟩, ck_of (by kernel_rfl)⟩

def tc_do_cross : Tc := ⟨T, [("first" : Str), ("second" : Str)], 1, none, [], [], [], false⟩

theorem d_do_cross {K : PySem.W.Frag} {f : Addr} {fd : FuncData} (F : FunD K "do_cross" "do_cross" (defArgs (top 14)) (defBody (top 14)) (defScope (top 14)) [] [] f fd) : DefS K f fd "do_cross" (defBody (top 14)) (defScope (top 14)) [("first" : Str), ("second" : Str)] [("first" : Str), ("second" : Str)] tc_do_cross F_do_cross :=
  ⟨⟨rfl, rfl, rfl, by decide +kernel, rfl, by decide +kernel, by decide +kernel⟩, F.bindsN fun _ _ _ _ _ _ us hl => match us, hl with | [_, _], _ => rfl, rfl, rfl, rfl, rfl, by decide +kernel, rfl, ⟨60, 200, by kernel_rfl⟩, ck_of (by kernel_rfl)⟩

def tc_first_crossed : Tc := ⟨T, [("earlier" : Str), ("road" : Str), ("at" : Str)], 3, none, [], [], [], false⟩

theorem d_first_crossed {K : PySem.W.Frag} {f : Addr} {fd : FuncData} (F : FunD K "first_crossed" "first_crossed" (defArgs (top 13)) (defBody (top 13)) (defScope (top 13)) [] [] f fd) : DefS K f fd "first_crossed" (defBody (top 13)) (defScope (top 13)) [("earlier" : Str), ("road" : Str), ("at" : Str)] [("earlier" : Str), ("road" : Str)] tc_first_crossed F_first_crossed :=
  ⟨⟨rfl, rfl, rfl, by decide +kernel, rfl, by decide +kernel, by decide +kernel⟩, F.bindsN fun _ _ _ _ _ _ us hl => match us, hl with | [_, _], _ => rfl, rfl, rfl, rfl, rfl, by decide +kernel, rfl, ⟨60, 200, by kernel_rfl⟩, ck_of (by kernel_rfl)⟩

def tc_check_roads : Tc := ⟨T, [("starts" : Str), ("roads" : Str), ("rows" : Str), ("at" : Str), ("crossed" : Str)], 5, none, [], [], [], false⟩

theorem d_check_roads {K : PySem.W.Frag} {f : Addr} {fd : FuncData} (F : FunD K "check_roads" "check_roads" (defArgs (top 10)) (defBody (top 10)) (defScope (top 10)) [] [] f fd) : DefS K f fd "check_roads" (defBody (top 10)) (defScope (top 10)) [("starts" : Str), ("roads" : Str), ("rows" : Str), ("at" : Str), ("crossed" : Str)] [("starts" : Str), ("roads" : Str)] tc_check_roads F_check_roads :=
  ⟨⟨rfl, rfl, rfl, by decide +kernel, rfl, by decide +kernel, by decide +kernel⟩, F.bindsN fun _ _ _ _ _ _ us hl => match us, hl with | [_, _], _ => rfl, rfl, rfl, rfl, rfl, by decide +kernel, rfl, ⟨60, 200, by kernel_rfl⟩, ck_of (by kernel_rfl)⟩

def tc_links_of : Tc := ⟨T, [("size" : Str), ("steps" : Str), ("found" : Str), ("step" : Str), ("_" : Str), ("places" : Str)], 1, none, [], [], [], false⟩

theorem d_links_of {K : PySem.W.Frag} {f : Addr} {fd : FuncData} (F : FunD K "links_of" "links_of" (defArgs (top 15)) (defBody (top 15)) (defScope (top 15)) [] [] f fd) : DefS K f fd "links_of" (defBody (top 15)) (defScope (top 15)) [("size" : Str), ("steps" : Str), ("found" : Str), ("step" : Str), ("_" : Str), ("places" : Str)] [("size" : Str), ("steps" : Str)] tc_links_of F_links_of :=
  ⟨⟨rfl, rfl, rfl, by decide +kernel, rfl, by decide +kernel, by decide +kernel⟩, F.bindsN fun _ _ _ _ _ _ us hl => match us, hl with | [_, _], _ => rfl, rfl, rfl, rfl, rfl, by decide +kernel, rfl, ⟨60, 200, by kernel_rfl⟩, ck_of (by kernel_rfl)⟩

def tc_lower_line : Tc := ⟨T, [("line" : Str), ("price" : Str), ("beyond" : Str), ("lowered" : Str), ("entry" : Str), ("rest" : Str)], 1, none, [], [], [], false⟩

theorem d_lower_line {K : PySem.W.Frag} {f : Addr} {fd : FuncData} (F : FunD K "lower_line" "lower_line" (defArgs (top 17)) (defBody (top 17)) (defScope (top 17)) [] [] f fd) : DefS K f fd "lower_line" (defBody (top 17)) (defScope (top 17)) [("line" : Str), ("price" : Str), ("beyond" : Str), ("lowered" : Str), ("entry" : Str), ("rest" : Str)] [("line" : Str), ("price" : Str), ("beyond" : Str)] tc_lower_line F_lower_line :=
  ⟨⟨rfl, rfl, rfl, by decide +kernel, rfl, by decide +kernel, by decide +kernel⟩, F.bindsN fun _ _ _ _ _ _ us hl => match us, hl with | [_, _, _], _ => rfl, rfl, rfl, rfl, rfl, by decide +kernel, rfl, ⟨60, 200, by kernel_rfl⟩, ck_of (by kernel_rfl)⟩

def tc_least_prices : Tc := ⟨T, [("size" : Str), ("roads" : Str), ("least" : Str), ("place" : Str), ("road" : Str), ("_" : Str)], 3, none, [], [], [], false⟩

theorem d_least_prices {K : PySem.W.Frag} {f : Addr} {fd : FuncData} (F : FunD K "least_prices" "least_prices" (defArgs (top 16)) (defBody (top 16)) (defScope (top 16)) [] [] f fd) : DefS K f fd "least_prices" (defBody (top 16)) (defScope (top 16)) [("size" : Str), ("roads" : Str), ("least" : Str), ("place" : Str), ("road" : Str), ("_" : Str)] [("size" : Str), ("roads" : Str)] tc_least_prices F_least_prices :=
  ⟨⟨rfl, rfl, rfl, by decide +kernel, rfl, by decide +kernel, by decide +kernel⟩, F.bindsN fun _ _ _ _ _ _ us hl => match us, hl with | [_, _], _ => rfl, rfl, rfl, rfl, rfl, by decide +kernel, rfl, ⟨60, 200, by kernel_rfl⟩, ck_of (by kernel_rfl)⟩

def tc_pairs_of : Tc := ⟨T, [("rows" : Str), ("least" : Str), ("groups" : Str), ("start" : Str), ("goal" : Str), ("pairs" : Str), ("group" : Str), ("_" : Str)], 1, none, [], [], [], false⟩

theorem d_pairs_of {K : PySem.W.Frag} {f : Addr} {fd : FuncData} (F : FunD K "pairs_of" "pairs_of" (defArgs (top 18)) (defBody (top 18)) (defScope (top 18)) [] [] f fd) : DefS K f fd "pairs_of" (defBody (top 18)) (defScope (top 18)) [("rows" : Str), ("least" : Str), ("groups" : Str), ("start" : Str), ("goal" : Str), ("pairs" : Str), ("group" : Str), ("_" : Str)] [("rows" : Str), ("least" : Str)] tc_pairs_of F_pairs_of :=
  ⟨⟨rfl, rfl, rfl, by decide +kernel, rfl, by decide +kernel, by decide +kernel⟩, F.bindsN fun _ _ _ _ _ _ us hl => match us, hl with | [_, _], _ => rfl, rfl, rfl, rfl, rfl, by decide +kernel, rfl, ⟨60, 200, by kernel_rfl⟩, ck_of (by kernel_rfl)⟩

def tc_Net___init__ : Tc := ⟨T, [("self" : Str), ("widths" : Str), ("roads" : Str), ("counts" : Str), ("listed" : Str), ("starts" : Str), ("road" : Str)], 7, none, [], [], [], false⟩

theorem d_Net___init__ {K : PySem.W.Frag} {f : Addr} {fd : FuncData} (F : FunD K "__init__" "Net.__init__" (defArgs (mth 7 0)) (defBody (mth 7 0)) (defScope (mth 7 0)) [] [] f fd) : DefI K fd (defScope (mth 7 0)) (defBody (mth 7 0)) [("self" : Str), ("widths" : Str), ("roads" : Str), ("counts" : Str), ("listed" : Str), ("starts" : Str), ("road" : Str)] [("self" : Str), ("widths" : Str), ("roads" : Str)] tc_Net___init__ F_Net___init__ :=
  ⟨⟨rfl, rfl, rfl, by decide +kernel, rfl, by decide +kernel, by decide +kernel⟩, F.bindsN fun _ _ _ _ _ _ us hl => match us, hl with | [_, _, _], _ => rfl, rfl, rfl, rfl, ⟨_, _, rfl, rfl⟩, by decide +kernel, rfl, ⟨60, 200, by kernel_rfl⟩, ckIni_of (by kernel_rfl)⟩

def tc__law_made : Tc := ⟨T, [("widths" : Str), ("roads" : Str), ("net" : Str), ("e" : Str)], 10, none, [], [], [("e" : Str)], false⟩

theorem d__law_made {K : PySem.W.Frag} {f : Addr} {fd : FuncData} (F : FunD K "_law_made" "_law_made" (defArgs (top 30)) (defBody (top 30)) (defScope (top 30)) [] [] f fd) : DefS K f fd "_law_made" (defBody (top 30)) (defScope (top 30)) [("widths" : Str), ("roads" : Str), ("net" : Str), ("e" : Str)] [("widths" : Str), ("roads" : Str)] tc__law_made F__law_made :=
  ⟨⟨rfl, rfl, rfl, by decide +kernel, rfl, by decide +kernel, by decide +kernel⟩, F.bindsN fun _ _ _ _ _ _ us hl => match us, hl with | [_, _], _ => rfl, rfl, rfl, rfl, rfl, by decide +kernel, rfl, ⟨60, 200, by kernel_rfl⟩, ck_of (by kernel_rfl)⟩

def tc__law_same : Tc := ⟨T, [("told" : Str), ("due" : Str), ("k" : Str)], 1, (some "_law_same"), [], [], [], false⟩

theorem d__law_same {K : PySem.W.Frag} {f : Addr} {fd : FuncData} (F : FunD K "_law_same" "_law_same" (defArgs (top 26)) (defBody (top 26)) (defScope (top 26)) [] [] f fd) : DefS K f fd "_law_same" (defBody (top 26)) (defScope (top 26)) [("told" : Str), ("due" : Str), ("k" : Str)] [("told" : Str), ("due" : Str)] tc__law_same F__law_same :=
  ⟨⟨rfl, rfl, rfl, by decide +kernel, rfl, by decide +kernel, by decide +kernel⟩, F.bindsN fun _ _ _ _ _ _ us hl => match us, hl with | [_, _], _ => rfl, rfl, rfl, rfl, rfl, by decide +kernel, rfl, ⟨60, 200, by kernel_rfl⟩, ck_of (by kernel_rfl)⟩

def tc__law_kinds : Tc := ⟨T, [("widths" : Str), ("roads" : Str), ("e" : Str)], 10, none, [], [], [("e" : Str)], false⟩

theorem d__law_kinds {K : PySem.W.Frag} {f : Addr} {fd : FuncData} (F : FunD K "_law_kinds" "_law_kinds" (defArgs (top 31)) (defBody (top 31)) (defScope (top 31)) [] [] f fd) : DefS K f fd "_law_kinds" (defBody (top 31)) (defScope (top 31)) [("widths" : Str), ("roads" : Str), ("e" : Str)] [("widths" : Str), ("roads" : Str)] tc__law_kinds F__law_kinds :=
  ⟨⟨rfl, rfl, rfl, by decide +kernel, rfl, by decide +kernel, by decide +kernel⟩, F.bindsN fun _ _ _ _ _ _ us hl => match us, hl with | [_, _], _ => rfl, rfl, rfl, rfl, rfl, by decide +kernel, rfl, ⟨60, 200, by kernel_rfl⟩, ck_of (by kernel_rfl)⟩

def tc_law : Tc := ⟨T, [("script" : Str), ("draws" : Str), ("picks" : Str), ("widths" : Str), ("roads" : Str), ("ways" : Str), ("k" : Str), ("at" : Str), ("due" : Str), ("spoilt" : Str), ("passed" : Str), ("handed" : Str), ("told" : Str)], 12, none, [], [], [], false⟩

theorem d_law {K : PySem.W.Frag} {f : Addr} {fd : FuncData} (F : FunD K "law" "law" (defArgs (top 32)) (defBody (top 32)) (defScope (top 32)) [] [] f fd) : DefS K f fd "law" (defBody (top 32)) (defScope (top 32)) [("script" : Str), ("draws" : Str), ("picks" : Str), ("widths" : Str), ("roads" : Str), ("ways" : Str), ("k" : Str), ("at" : Str), ("due" : Str), ("spoilt" : Str), ("passed" : Str), ("handed" : Str), ("told" : Str)] [("script" : Str)] tc_law F_law :=
  ⟨⟨rfl, rfl, rfl, by decide +kernel, rfl, by decide +kernel, by decide +kernel⟩, F.bindsN fun _ _ _ _ _ _ us hl => match us, hl with | [_], _ => rfl, rfl, rfl, rfl, rfl, by decide +kernel, rfl, ⟨60, 200, by kernel_rfl⟩, ck_of (by kernel_rfl)⟩

def D__law_cell : He.DefD := ⟨("_law_cell", none), "_law_cell", "_law_cell", defArgs (top 20), defBody (top 20), defScope (top 20), [], []⟩

def D__law_draws : He.DefD := ⟨("_law_draws", none), "_law_draws", "_law_draws", defArgs (top 21), defBody (top 21), defScope (top 21), [], []⟩

def D__law_widths : He.DefD := ⟨("_law_widths", none), "_law_widths", "_law_widths", defArgs (top 22), defBody (top 22), defScope (top 22), [], []⟩

def D__law_price : He.DefD := ⟨("_law_price", none), "_law_price", "_law_price", defArgs (top 23), defBody (top 23), defScope (top 23), [], []⟩

def D__law_roads : He.DefD := ⟨("_law_roads", none), "_law_roads", "_law_roads", defArgs (top 24), defBody (top 24), defScope (top 24), [], []⟩

def D__law_mixed : He.DefD := ⟨("_law_mixed", none), "_law_mixed", "_law_mixed", defArgs (top 27), defBody (top 27), defScope (top 27), [], []⟩

def D__law_new_road : He.DefD := ⟨("_law_new_road", none), "_law_new_road", "_law_new_road", defArgs (top 28), defBody (top 28), defScope (top 28), [], []⟩

def D__law_rows : He.DefD := ⟨("_law_rows", none), "_law_rows", "_law_rows", defArgs (top 25), defBody (top 25), defScope (top 25), [], []⟩

def D__law_scan : He.DefD := ⟨("_law_scan", none), "_law_scan", "_law_scan", defArgs (top 29), defBody (top 29), defScope (top 29), [], []⟩

def D_starts_of : He.DefD := ⟨("starts_of", none), "starts_of", "starts_of", defArgs (top 8), defBody (top 8), defScope (top 8), [], []⟩

def D_rows_of : He.DefD := ⟨("rows_of", none), "rows_of", "rows_of", defArgs (top 9), defBody (top 9), defScope (top 9), [], []⟩

def D_joins_rows : He.DefD := ⟨("joins_rows", none), "joins_rows", "joins_rows", defArgs (top 11), defBody (top 11), defScope (top 11), [], []⟩

def D_is_double : He.DefD := ⟨("is_double", none), "is_double", "is_double", defArgs (top 12), defBody (top 12), defScope (top 12), [], []⟩

def D_do_cross : He.DefD := ⟨("do_cross", none), "do_cross", "do_cross", defArgs (top 14), defBody (top 14), defScope (top 14), [], []⟩

def D_first_crossed : He.DefD := ⟨("first_crossed", none), "first_crossed", "first_crossed", defArgs (top 13), defBody (top 13), defScope (top 13), [], []⟩

def D_check_roads : He.DefD := ⟨("check_roads", none), "check_roads", "check_roads", defArgs (top 10), defBody (top 10), defScope (top 10), [], []⟩

def D_links_of : He.DefD := ⟨("links_of", none), "links_of", "links_of", defArgs (top 15), defBody (top 15), defScope (top 15), [], []⟩

def D_lower_line : He.DefD := ⟨("lower_line", none), "lower_line", "lower_line", defArgs (top 17), defBody (top 17), defScope (top 17), [], []⟩

def D_least_prices : He.DefD := ⟨("least_prices", none), "least_prices", "least_prices", defArgs (top 16), defBody (top 16), defScope (top 16), [], []⟩

def D_pairs_of : He.DefD := ⟨("pairs_of", none), "pairs_of", "pairs_of", defArgs (top 18), defBody (top 18), defScope (top 18), [], []⟩

def D_Net___init__ : He.DefD := ⟨("Net", some "__init__"), "__init__", "Net.__init__", defArgs (mth 7 0), defBody (mth 7 0), defScope (mth 7 0), [], []⟩

def D__law_made : He.DefD := ⟨("_law_made", none), "_law_made", "_law_made", defArgs (top 30), defBody (top 30), defScope (top 30), [], []⟩

def D__law_same : He.DefD := ⟨("_law_same", none), "_law_same", "_law_same", defArgs (top 26), defBody (top 26), defScope (top 26), [], []⟩

def D__law_kinds : He.DefD := ⟨("_law_kinds", none), "_law_kinds", "_law_kinds", defArgs (top 31), defBody (top 31), defScope (top 31), [], []⟩

def D_law : He.DefD := ⟨("law", none), "law", "law", defArgs (top 32), defBody (top 32), defScope (top 32), [], []⟩

def D_X_BadNet : He.DefD := ⟨("BadNet", some "__init__"), "__init__", "BadNet.__init__", defArgs (mth 3 0), defBody (mth 3 0), defScope (mth 3 0), [], []⟩

def D_X_RoadsCross : He.DefD := ⟨("RoadsCross", some "__init__"), "__init__", "RoadsCross.__init__", defArgs (mth 4 0), defBody (mth 4 0), defScope (mth 4 0), [], []⟩

def D_X_NoRoad : He.DefD := ⟨("NoRoad", some "__init__"), "__init__", "NoRoad.__init__", defArgs (mth 5 0), defBody (mth 5 0), defScope (mth 5 0), [], []⟩

def fn : List He.DefD := [D__law_cell, D__law_draws, D__law_widths, D__law_price, D__law_roads, D__law_mixed, D__law_new_road, D__law_rows, D__law_scan, D_starts_of, D_rows_of, D_joins_rows, D_is_double, D_do_cross, D_first_crossed, D_check_roads, D_links_of, D_lower_line, D_least_prices, D_pairs_of, D_Net___init__, D__law_made, D__law_same, D__law_kinds, D_law, D_X_BadNet, D_X_RoadsCross, D_X_NoRoad]

def fa : List He.Fa := [.glo "_law_cell", .glo "_law_draws", .glo "_law_widths", .glo "_law_price", .glo "_law_roads", .glo "_law_mixed", .glo "_law_new_road", .glo "_law_rows", .glo "_law_scan", .glo "starts_of", .glo "rows_of", .glo "joins_rows", .glo "is_double", .glo "do_cross", .glo "first_crossed", .glo "check_roads", .glo "links_of", .glo "lower_line", .glo "least_prices", .glo "pairs_of", .glo "_law_made", .glo "_law_same", .glo "_law_kinds", .glo "law", .glo "Net", .mkr "Net", .glo "BadNet", .meth "BadNet" "__init__", .glo "RoadsCross", .meth "RoadsCross" "__init__", .glo "NoRoad", .meth "NoRoad" "__init__"]

def loose : List Str := ([("_wall" : Str), ("GuideError" : Str), ("BadNet" : Str), ("RoadsCross" : Str), ("NoRoad" : Str), ("Net" : Str), ("starts_of" : Str), ("rows_of" : Str), ("check_roads" : Str), ("joins_rows" : Str), ("is_double" : Str), ("first_crossed" : Str), ("do_cross" : Str), ("links_of" : Str), ("least_prices" : Str), ("lower_line" : Str), ("pairs_of" : Str), ("_law_cell" : Str), ("_law_draws" : Str), ("_law_widths" : Str), ("_law_price" : Str), ("_law_roads" : Str), ("_law_rows" : Str), ("_law_same" : Str), ("_law_mixed" : Str), ("_law_new_road" : Str), ("_law_scan" : Str), ("_law_made" : Str), ("_law_kinds" : Str)] : List Str)

abbrev R : PySem.W.OpenRow := PySem.W.OpenLaw.row PySem.Challenge.rw_meetonce_k02_net_refused

abbrev hk : PySem.W.Hook := hookM FN cls xcs xbs 5 fa fn

def ob (s : PySem.W.SharedT) : He.AlD := obsMG FN cls xcs xbs 5 fa fn (HandSHeadRun.getT s)

theorem ob_eq (s : PySem.W.SharedT) : ob s = hk.obs s.abs := obsMG_eq (HandSHeadRun.getT_eq s)

theorem run (w : World) : HandSHeadRun.RunEq R (PySem.W.view R.prog [32]) hk ob 4000 loose w := by
  intro os
  kernel_rfl

theorem hfns {K : PySem.W.Frag} {h : Heap} {mg : Str → Option Value} (X : K.In h) (G : h.Ns mainGlobals mg) (c : SaysM FN cls xcs xbs fa fn K) : MpS.AllP (FnD K mg T) T.fns := by

  obtain ⟨fd__law_cell, F__law_cell'⟩ := c.says.def_ 0 (d := D__law_cell) rfl

  obtain ⟨fd__law_draws, F__law_draws'⟩ := c.says.def_ 1 (d := D__law_draws) rfl

  obtain ⟨fd__law_widths, F__law_widths'⟩ := c.says.def_ 2 (d := D__law_widths) rfl

  obtain ⟨fd__law_price, F__law_price'⟩ := c.says.def_ 3 (d := D__law_price) rfl

  obtain ⟨fd__law_roads, F__law_roads'⟩ := c.says.def_ 4 (d := D__law_roads) rfl

  obtain ⟨fd__law_mixed, F__law_mixed'⟩ := c.says.def_ 5 (d := D__law_mixed) rfl

  obtain ⟨fd__law_new_road, F__law_new_road'⟩ := c.says.def_ 6 (d := D__law_new_road) rfl

  obtain ⟨fd__law_rows, F__law_rows'⟩ := c.says.def_ 7 (d := D__law_rows) rfl

  obtain ⟨fd__law_scan, F__law_scan'⟩ := c.says.def_ 8 (d := D__law_scan) rfl

  obtain ⟨fd_starts_of, F_starts_of'⟩ := c.says.def_ 9 (d := D_starts_of) rfl

  obtain ⟨fd_rows_of, F_rows_of'⟩ := c.says.def_ 10 (d := D_rows_of) rfl

  obtain ⟨fd_joins_rows, F_joins_rows'⟩ := c.says.def_ 11 (d := D_joins_rows) rfl

  obtain ⟨fd_is_double, F_is_double'⟩ := c.says.def_ 12 (d := D_is_double) rfl

  obtain ⟨fd_do_cross, F_do_cross'⟩ := c.says.def_ 13 (d := D_do_cross) rfl

  obtain ⟨fd_first_crossed, F_first_crossed'⟩ := c.says.def_ 14 (d := D_first_crossed) rfl

  obtain ⟨fd_check_roads, F_check_roads'⟩ := c.says.def_ 15 (d := D_check_roads) rfl

  obtain ⟨fd_links_of, F_links_of'⟩ := c.says.def_ 16 (d := D_links_of) rfl

  obtain ⟨fd_lower_line, F_lower_line'⟩ := c.says.def_ 17 (d := D_lower_line) rfl

  obtain ⟨fd_least_prices, F_least_prices'⟩ := c.says.def_ 18 (d := D_least_prices) rfl

  obtain ⟨fd_pairs_of, F_pairs_of'⟩ := c.says.def_ 19 (d := D_pairs_of) rfl

  obtain ⟨fd__law_made, F__law_made'⟩ := c.says.def_ 21 (d := D__law_made) rfl

  obtain ⟨fd__law_same, F__law_same'⟩ := c.says.def_ 22 (d := D__law_same) rfl

  obtain ⟨fd__law_kinds, F__law_kinds'⟩ := c.says.def_ 23 (d := D__law_kinds) rfl

  exact .cons ⟨_, _, _, _, _, _, _, _, _, tc__law_cell, F__law_cell', d__law_cell F__law_cell', rfl, rfl, He.glo_ok X G (c.says.fact 0 (f := .glo "_law_cell") rfl), by decide +kernel, rfl, .inl ⟨rfl, rfl⟩⟩ (.cons ⟨_, _, _, _, _, _, _, _, _, tc__law_draws, F__law_draws', d__law_draws F__law_draws', rfl, rfl, He.glo_ok X G (c.says.fact 1 (f := .glo "_law_draws") rfl), by decide +kernel, rfl, .inl ⟨rfl, rfl⟩⟩ (.cons ⟨_, _, _, _, _, _, _, _, _, tc__law_widths, F__law_widths', d__law_widths F__law_widths', rfl, rfl, He.glo_ok X G (c.says.fact 2 (f := .glo "_law_widths") rfl), by decide +kernel, rfl, .inl ⟨rfl, rfl⟩⟩ (.cons ⟨_, _, _, _, _, _, _, _, _, tc__law_price, F__law_price', d__law_price F__law_price', rfl, rfl, He.glo_ok X G (c.says.fact 3 (f := .glo "_law_price") rfl), by decide +kernel, rfl, .inl ⟨rfl, rfl⟩⟩ (.cons ⟨_, _, _, _, _, _, _, _, _, tc__law_roads, F__law_roads', d__law_roads F__law_roads', rfl, rfl, He.glo_ok X G (c.says.fact 4 (f := .glo "_law_roads") rfl), by decide +kernel, rfl, .inl ⟨rfl, rfl⟩⟩ (.cons ⟨_, _, _, _, _, _, _, _, _, tc__law_mixed, F__law_mixed', d__law_mixed F__law_mixed', rfl, rfl, He.glo_ok X G (c.says.fact 5 (f := .glo "_law_mixed") rfl), by decide +kernel, rfl, .inl ⟨rfl, rfl⟩⟩ (.cons ⟨_, _, _, _, _, _, _, _, _, tc__law_new_road, F__law_new_road', d__law_new_road F__law_new_road', rfl, rfl, He.glo_ok X G (c.says.fact 6 (f := .glo "_law_new_road") rfl), by decide +kernel, rfl, .inl ⟨rfl, rfl⟩⟩ (.cons ⟨_, _, _, _, _, _, _, _, _, tc__law_rows, F__law_rows', d__law_rows F__law_rows', rfl, rfl, He.glo_ok X G (c.says.fact 7 (f := .glo "_law_rows") rfl), by decide +kernel, rfl, .inl ⟨rfl, rfl⟩⟩ (.cons ⟨_, _, _, _, _, _, _, _, _, tc__law_scan, F__law_scan', d__law_scan F__law_scan', rfl, rfl, He.glo_ok X G (c.says.fact 8 (f := .glo "_law_scan") rfl), by decide +kernel, rfl, .inl ⟨rfl, rfl⟩⟩ (.cons ⟨_, _, _, _, _, _, _, _, _, tc_starts_of, F_starts_of', d_starts_of F_starts_of', rfl, rfl, He.glo_ok X G (c.says.fact 9 (f := .glo "starts_of") rfl), by decide +kernel, rfl, .inl ⟨rfl, rfl⟩⟩ (.cons ⟨_, _, _, _, _, _, _, _, _, tc_rows_of, F_rows_of', d_rows_of F_rows_of', rfl, rfl, He.glo_ok X G (c.says.fact 10 (f := .glo "rows_of") rfl), by decide +kernel, rfl, .inl ⟨rfl, rfl⟩⟩ (.cons ⟨_, _, _, _, _, _, _, _, _, tc_joins_rows, F_joins_rows', d_joins_rows F_joins_rows', rfl, rfl, He.glo_ok X G (c.says.fact 11 (f := .glo "joins_rows") rfl), by decide +kernel, rfl, .inl ⟨rfl, rfl⟩⟩ (.cons ⟨_, _, _, _, _, _, _, _, _, tc_is_double, F_is_double', d_is_double F_is_double', rfl, rfl, He.glo_ok X G (c.says.fact 12 (f := .glo "is_double") rfl), by decide +kernel, rfl, .inl ⟨rfl, rfl⟩⟩ (.cons ⟨_, _, _, _, _, _, _, _, _, tc_do_cross, F_do_cross', d_do_cross F_do_cross', rfl, rfl, He.glo_ok X G (c.says.fact 13 (f := .glo "do_cross") rfl), by decide +kernel, rfl, .inl ⟨rfl, rfl⟩⟩ (.cons ⟨_, _, _, _, _, _, _, _, _, tc_first_crossed, F_first_crossed', d_first_crossed F_first_crossed', rfl, rfl, He.glo_ok X G (c.says.fact 14 (f := .glo "first_crossed") rfl), by decide +kernel, rfl, .inl ⟨rfl, rfl⟩⟩ (.cons ⟨_, _, _, _, _, _, _, _, _, tc_check_roads, F_check_roads', d_check_roads F_check_roads', rfl, rfl, He.glo_ok X G (c.says.fact 15 (f := .glo "check_roads") rfl), by decide +kernel, rfl, .inl ⟨rfl, rfl⟩⟩ (.cons ⟨_, _, _, _, _, _, _, _, _, tc_links_of, F_links_of', d_links_of F_links_of', rfl, rfl, He.glo_ok X G (c.says.fact 16 (f := .glo "links_of") rfl), by decide +kernel, rfl, .inl ⟨rfl, rfl⟩⟩ (.cons ⟨_, _, _, _, _, _, _, _, _, tc_lower_line, F_lower_line', d_lower_line F_lower_line', rfl, rfl, He.glo_ok X G (c.says.fact 17 (f := .glo "lower_line") rfl), by decide +kernel, rfl, .inl ⟨rfl, rfl⟩⟩ (.cons ⟨_, _, _, _, _, _, _, _, _, tc_least_prices, F_least_prices', d_least_prices F_least_prices', rfl, rfl, He.glo_ok X G (c.says.fact 18 (f := .glo "least_prices") rfl), by decide +kernel, rfl, .inl ⟨rfl, rfl⟩⟩ (.cons ⟨_, _, _, _, _, _, _, _, _, tc_pairs_of, F_pairs_of', d_pairs_of F_pairs_of', rfl, rfl, He.glo_ok X G (c.says.fact 19 (f := .glo "pairs_of") rfl), by decide +kernel, rfl, .inl ⟨rfl, rfl⟩⟩ (.cons ⟨_, _, _, _, _, _, _, _, _, tc__law_made, F__law_made', d__law_made F__law_made', rfl, rfl, He.glo_ok X G (c.says.fact 20 (f := .glo "_law_made") rfl), by decide +kernel, rfl, .inl ⟨rfl, rfl⟩⟩ (.cons ⟨_, _, _, _, _, _, _, _, _, tc__law_same, F__law_same', d__law_same F__law_same', rfl, rfl, He.glo_ok X G (c.says.fact 21 (f := .glo "_law_same") rfl), by decide +kernel, rfl, .inr rfl⟩ (.cons ⟨_, _, _, _, _, _, _, _, _, tc__law_kinds, F__law_kinds', d__law_kinds F__law_kinds', rfl, rfl, He.glo_ok X G (c.says.fact 22 (f := .glo "_law_kinds") rfl), by decide +kernel, rfl, .inl ⟨rfl, rfl⟩⟩ (.nil)))))))))))))))))))))))

theorem hcls {K : PySem.W.Frag} {h : Heap} {mg : Str → Option Value} (X : K.In h) (G : h.Ns mainGlobals mg) (c : SaysM FN cls xcs xbs fa fn K) : MpS.AllP (MkD K mg (cfgOf FN cls xcs K) T) T.cls := by

  obtain ⟨fd_Net___init__, F_Net___init__'⟩ := c.says.def_ 20 (d := D_Net___init__) rfl

  exact .cons ⟨_, _, _, _, _, _, _, _, _, tc_Net___init__, F_Net___init__', d_Net___init__ F_Net___init__', rfl, rfl, He.glo_ok X G (c.says.fact 24 (f := .glo "Net") rfl), He.mkr_ok (c.says.fact 25 (f := .mkr "Net") rfl), (show (_ : Nat) < cls.length by decide), by decide +kernel, rfl, rfl, rfl⟩ (.nil)

theorem hmts {K : PySem.W.Frag} {h : Heap} {mg : Str → Option Value} (X : K.In h) (G : h.Ns mainGlobals mg) (c : SaysM FN cls xcs xbs fa fn K) : MpS.AllP (MtD K (cfgOf FN cls xcs K) T) T.mts := by

  exact .nil

theorem hxcl {K : PySem.W.Frag} {h : Heap} {mg : Str → Option Value} (X : K.In h) (G : h.Ns mainGlobals mg) (c : SaysM FN cls xcs xbs fa fn K) : MpS.AllP (XcD K mg (cfgOf FN cls xcs K) T) T.xcl := by

  obtain ⟨fd_BadNet, F_BadNet⟩ := c.says.def_ 25 (d := D_X_BadNet) rfl

  obtain ⟨fd_RoadsCross, F_RoadsCross⟩ := c.says.def_ 26 (d := D_X_RoadsCross) rfl

  obtain ⟨fd_NoRoad, F_NoRoad⟩ := c.says.def_ 27 (d := D_X_NoRoad) rfl

  exact .cons ⟨He.glo_ok X G (c.says.fact 26 (f := .glo "BadNet") rfl), by decide +kernel, (show (_ : Nat) < xcs.length by decide), fun h => absurd h (by decide), fun _ => ⟨"GuideError", 999, _, fd_BadNet, _, _, _, _, _, [("self" : Str), ("at" : Str)], rfl, F_BadNet, (He.meth_ok (c.says.fact 27 (f := .meth "BadNet" "__init__") rfl)).at_, beq_iff_eq.mp (He.meth_ok (c.says.fact 27 (f := .meth "BadNet" "__init__") rfl)).fn, ⟨rfl, rfl, rfl, by decide +kernel, rfl, by decide +kernel, by decide +kernel⟩, F_BadNet.bindsN fun _ _ _ _ _ _ us hl => match us, hl with | [_, _], _ => rfl, by decide +kernel, by decide +kernel, by kernel_rfl⟩⟩ (.cons ⟨He.glo_ok X G (c.says.fact 28 (f := .glo "RoadsCross") rfl), by decide +kernel, (show (_ : Nat) < xcs.length by decide), fun h => absurd h (by decide), fun _ => ⟨"GuideError", 999, _, fd_RoadsCross, _, _, _, _, _, [("self" : Str), ("first" : Str), ("second" : Str)], rfl, F_RoadsCross, (He.meth_ok (c.says.fact 29 (f := .meth "RoadsCross" "__init__") rfl)).at_, beq_iff_eq.mp (He.meth_ok (c.says.fact 29 (f := .meth "RoadsCross" "__init__") rfl)).fn, ⟨rfl, rfl, rfl, by decide +kernel, rfl, by decide +kernel, by decide +kernel⟩, F_RoadsCross.bindsN fun _ _ _ _ _ _ us hl => match us, hl with | [_, _, _], _ => rfl, by decide +kernel, by decide +kernel, by kernel_rfl⟩⟩ (.cons ⟨He.glo_ok X G (c.says.fact 30 (f := .glo "NoRoad") rfl), by decide +kernel, (show (_ : Nat) < xcs.length by decide), fun h => absurd h (by decide), fun _ => ⟨"GuideError", 999, _, fd_NoRoad, _, _, _, _, _, [("self" : Str), ("start" : Str), ("end" : Str)], rfl, F_NoRoad, (He.meth_ok (c.says.fact 31 (f := .meth "NoRoad" "__init__") rfl)).at_, beq_iff_eq.mp (He.meth_ok (c.says.fact 31 (f := .meth "NoRoad" "__init__") rfl)).fn, ⟨rfl, rfl, rfl, by decide +kernel, rfl, by decide +kernel, by decide +kernel⟩, F_NoRoad.bindsN fun _ _ _ _ _ _ us hl => match us, hl with | [_, _, _], _ => rfl, by decide +kernel, by decide +kernel, by kernel_rfl⟩⟩ (.nil)))

theorem h0k {K : PySem.W.Frag} {h : Heap} {mg : Str → Option Value} (X : K.In h) (G : h.Ns mainGlobals mg) (c : SaysM FN cls xcs xbs fa fn K) : HOk0 K mg (cfgOf FN cls xcs K) T :=
  hd_ok (T := T) (FN := FN) (cls := cls) (xcs := xcs) (xbs := xbs) X G rfl rfl (by kernel_rfl) rfl c.hd

theorem facts {P : Program} {w : World} {K : PySem.W.Frag} {h : Heap} {mg : Str → Option Value} {f : Addr} (X : K.In h) (G : h.Ns mainGlobals mg) (hfa : mg ("law" : Str) = some (.ref f)) (c : SaysM FN cls xcs xbs fa fn K) :
    ∃ fd : FuncData, (∀ (s : Shared) (v : Value), BindsTo s fd ⟨[v], []⟩ [("script", v)]) ∧ ∀ base : Heap, K.In base → base.Ns mainGlobals mg → FnOk P w K mg base (L2.CX P w) 13 f fd ["script"] (spB (cfgOf FN cls xcs K) (Mp.run F_law) F_law.md F_law.rt) := by
  obtain ⟨fd, F⟩ := c.says.def_ 24 (d := D_law) rfl
  have e := hfa.symm.trans (He.glo_ok X G (c.says.fact 23 (f := .glo "law") rfl))
  cases e
  have b := FunD.bindsA (ps := ["script"]) F fun _ _ _ _ _ _ us hl => match us, hl with | [_], _ => rfl
  exact ⟨fd, fun s v => b s [v] rfl, fun base _ _ => law_fn (T := T) (C := cfgOf FN cls xcs K) (tc := tc_law) (h0k X G c) (hfns X G c) (hcls X G c) (hmts X G c) (hxcl X G c) F (d_law F) rfl rfl rfl rfl⟩

end Lk02

open PySem PySem.W PySem.Calls PyProof.Rows in
theorem Lk02.holds (plain : ∀ xs : List Int, xs.length ≤ 63 → Mp.run F_law [.scr xs] = .ok (.bl true)) : PySem.Challenge.rw_meetonce_k02_net_refused.Holds := by
  w_on; o_law
  refine HandSHeadRun.head_any (r := OpenLaw.row PySem.Challenge.rw_meetonce_k02_net_refused) (q := view (OpenLaw.row PySem.Challenge.rw_meetonce_k02_net_refused).prog [32]) (H := Lk02.hk) (ob := Lk02.ob) (M := 4000) (loose := Lk02.loose) (d := HandSHeadRun.topDef (OpenLaw.row PySem.Challenge.rw_meetonce_k02_net_refused).prog 32) (kwd := []) Lk02.ob_eq
    (by kernel_rfl) (fun s => by kernel_rfl) Lk02.run (by kernel_rfl) (by kernel_rfl) (by kernel_rfl) (by rfl) (by first | assumption | decide +kernel) (by decide +kernel) ⟨rfl, rfl, rfl, rfl, rfl, by decide +kernel⟩ ?hw ?hc
  case hw => w_witness2
  case hc =>
    refine MpS.walk_ofW (l := PySem.Challenge.rw_meetonce_k02_net_refused) (n := 63) (k := 13) (x := "script") (cx := L2.CX (PySem.Challenge.rw_meetonce_k02_net_refused).prog) rfl (by decide) (by kernel_rfl) ⟨rfl, by decide, by decide⟩ ?F (fun _ _ _ _ _ z => MpS.cx_no _ _ _ _ z)
    intro w mg fa h Y G hmg0
    obtain ⟨K, KX, c⟩ := Y
    have hmg : mg ("law" : PySem.Str) = some (.ref fa) := by
      have e : (HandSHeadRun.topDef (OpenLaw.row PySem.Challenge.rw_meetonce_k02_net_refused).prog 32).name = ("law" : PySem.Str) := by kernel_rfl
      rw [← e]
      exact hmg0
    obtain ⟨fd, hb, hF⟩ := Lk02.facts (P := (PySem.Challenge.rw_meetonce_k02_net_refused).prog) (w := w) KX G hmg c
    exact ⟨K, fd, _, KX, hb, fun H a xs hl hO hS => MpS.spB_law hO hS (plain xs hl), hF⟩

set_option maxHeartbeats 8000000 in
theorem PySem.Challenge.cw_meetonce_k02_net_refused_holds : PySem.Challenge.rw_meetonce_k02_net_refused.Holds := by
  exact Lk02.holds fun xs hl => MpL.plain_k02 xs
