import PyProof.Rows.All
import Wide.All
import OpenK.AllK
import Wide.FinOn
import HandS.Base
import HandS.Call
import HandS.List
import HandS.Dict
import HandS.More
import HandS.Exc
import HandS.ExcOwn
import HandS.Text
import HandS.Wide
import HandS.Deep
import HandS.Codes
import HandS.TupAny
import HandS.Replace
import HandS.Comp
import HandS.Iter
import HandS.IsInst
import HandS.Style
import HandS.ExcInit
import HandS.Defaults
import HandS.Words
import HandS.HeadHook1
import HandS.HeadHook2
import HandS.HeadHook3
import HandS.Head0
import HandS.Head1
import HandS.Head2
import HandS.Ends
import HandS.HeadEnd
import KE.KStateDown
import HandS.WordsExc
import PySem.Challenge.RW_cyclebeat_k03_canonical_patterns
section
set_option autoImplicit false
/-! The small language: values, memory, expressions, statements, and what they do. -/
namespace Cy

/-- a value: plain data, or a label of the memory -/
inductive D where
  | non
  | bl (b : Bool)
  | int (i : Int)
  | str (s : List Nat)
  | tup (xs : List D)
  | lst (xs : List D)
  | dct (ks : List (List Nat)) (vs : List D)
  | obj (l : Nat)
  deriving Inhabited

/-- what stands in the memory -/
inductive MO where
  | lst (xs : List D)
  | ins (c : Nat) (fs : List (Nat × D))
  | dct (ks : List (List Nat)) (vs : List D)

abbrev Mem := List MO
abbrev Env := List (Option D)

structure Exc where
  cls : Nat
  fs : List (Nat × D)

inductive Res (α : Type) where
  | ok (a : α) (M : Mem)
  | exc (e : Exc) (M : Mem)
  | bad

def Res.bind {α β : Type} (r : Res α) (f : α → Mem → Res β) : Res β :=
  match r with
  | .ok a M => f a M
  | .exc e M => .exc e M
  | .bad => .bad

/-- the longest list, text -/
def top : Nat := 16777216

mutual
def D.eqv : D → D → Bool
  | .non, .non => true
  | .bl a, .bl b => a == b
  | .bl a, .int j => (if a then 1 else 0) == j
  | .int i, .bl b => i == (if b then 1 else 0)
  | .int i, .int j => i == j
  | .str x, .str y => x == y
  | .tup xs, .tup ys => D.eqvL xs ys
  | .lst xs, .lst ys => D.eqvL xs ys
  | _, _ => false
def D.eqvL : List D → List D → Bool
  | [], [] => true
  | x :: xs, y :: ys => D.eqv x y && D.eqvL xs ys
  | _, _ => false
end

mutual
/-- plain data (none, bolsOf, intsOf, texts, lists, tuples), at most so deep -/
def D.dat : Nat → D → Bool
  | _, .non => true
  | _, .bl _ => true
  | _, .int _ => true
  | _, .str _ => true
  | 0, _ => false
  | n + 1, .tup xs => D.datL n xs
  | n + 1, .lst xs => D.datL n xs
  | _, _ => false
def D.datL : Nat → List D → Bool
  | _, [] => true
  | n, x :: xs => D.dat n x && D.datL n xs
end

/-- a list's label is seen as its list -/
def view (M : Mem) : D → D
  | .obj l => match M[l]? with
    | some (.lst xs) => .lst xs
    | _ => .obj l
  | d => d

inductive BOp where
  | add | addL | sub | mul | fdiv | mod | pow
  deriving DecidableEq
inductive COp where
  | eq | ne | lt | le | gt | ge | is | isn | inn | nin
  deriving DecidableEq

/-- a fresh list: frozen, or a new label -/
def mkL (l : Bool) (xs : List D) (M : Mem) : Res D := match l with
  | false => .ok (.lst xs) M
  | true => .ok (.obj M.length) (M ++ [.lst xs])
/-- factors' size -/
def wide (i : Int) : Bool := Nat.blt i.natAbs.log2 400000
def rep {α : Type} : Nat → List α → List α
  | 0, _ => []
  | n + 1, s => s ++ rep n s
def bopV : BOp → D → D → Mem → Res D
  | .add, .int i, .int j, M => .ok (.int (i + j)) M
  | .sub, .int i, .int j, M => .ok (.int (i - j)) M
  | .mul, .int i, .int j, M => if wide i && wide j then .ok (.int (i * j)) M else .bad
  | .fdiv, .int i, .int j, M => if decide (0 < j) && Nat.blt j.natAbs.log2 9000 then .ok (.int (i / j)) M else .bad
  | .mod, .int i, .int j, M => if 0 < j then .ok (.int (i % j)) M else .bad
  | .pow, .int i, .int j, M => if decide (0 ≤ j) && decide (j ≤ 1000) && decide (i.natAbs < 1000) then .ok (.int (i ^ j.toNat)) M else .bad
  | .add, .str x, .str y, M => if Nat.ble (x.length + y.length) top then .ok (.str (x ++ y)) M else .bad
  | .add, .lst x, .lst y, M => if Nat.ble (x.length + y.length) top then .ok (.lst (x ++ y)) M else .bad
  | .addL, .lst x, .lst y, M => if Nat.ble (x.length + y.length) top then mkL true (x ++ y) M else .bad
  | .add, .tup x, .tup y, M => if Nat.ble (x.length + y.length) top then .ok (.tup (x ++ y)) M else .bad
  | .mul, .str s, .int k, M => if decide (0 ≤ k) && decide (k ≤ 1000) && Nat.ble s.length 1000 then .ok (.str (rep k.toNat s)) M else .bad
  | _, _, _, _ => .bad
def bop (o : BOp) (x y : D) (M : Mem) : Res D := bopV o (view M x) (view M y) M

/-- a scalar -/
def D.flat : D → Bool
  | .non => true
  | .bl _ => true
  | .int _ => true
  | .str _ => true
  | _ => false
/-- one sign in a text; a key in a dict; data in a list, a tuple -/
def isIn : D → D → Option Bool
  | .str [c], .str s => some (s.contains c)
  | .str k, .dct ks _ => some (ks.contains k)
  | d, .tup xs => if D.flat d && xs.all D.flat then some (xs.any fun x => D.eqv x d) else none
  | d, .lst xs => if D.dat 60 d && D.datL 60 xs then some (xs.any fun x => D.eqv x d) else none
  | _, _ => none

def isNon : D → Bool
  | .non => true
  | _ => false

def cop : COp → D → D → Mem → Option Bool
  | .eq, a, b, M => if D.dat 60 (view M a) && D.dat 60 (view M b) then some (D.eqv (view M a) (view M b)) else none
  | .ne, a, b, M => if D.dat 60 (view M a) && D.dat 60 (view M b) then some (!D.eqv (view M a) (view M b)) else none
  | .lt, .int i, .int j, _ => some (decide (i < j))
  | .le, .int i, .int j, _ => some (decide (i ≤ j))
  | .gt, .int i, .int j, _ => some (decide (j < i))
  | .ge, .int i, .int j, _ => some (decide (j ≤ i))
  | .is, a, .non, _ => some (isNon a)
  | .isn, a, .non, _ => some (!isNon a)
  | .inn, a, b, M => isIn a (view M b)
  | .nin, a, b, M => (isIn a (view M b)).map (! ·)
  | _, _, _, _ => none

/-- Python's place: from the end where it is negative -/
def ixN (n : Nat) (i : Int) : Option Nat :=
  if 0 ≤ i then (if i < n then some i.toNat else none) else if -(n : Int) ≤ i then some (i + n).toNat else none
def atI {α : Type} (xs : List α) (i : Int) : Option α := (ixN xs.length i).bind fun j => xs[j]?

def find {α : Type} (k : List Nat) : List (List Nat) → List α → Option α
  | x :: ks, v :: vs => if x == k then some v else find k ks vs
  | _, _ => none

def index : D → D → Option D
  | .lst xs, .int i => atI xs i
  | .tup xs, .int i => atI xs i
  | .str s, .int i => (atI s i).map fun c => .str [c]
  | .dct ks vs, .str k => find k ks vs
  | _, _ => none

/-- where a slice begins, ends -/
def sIx (n d : Nat) : Option Int → Nat
  | none => d
  | some i => if i < 0 then (i + (n : Int)).toNat else min i.toNat n
def cut {α : Type} (xs : List α) (lo hi : Option Int) : List α :=
  (xs.drop (sIx xs.length 0 lo)).take (sIx xs.length xs.length hi - sIx xs.length 0 lo)
def slice : D → Option Int → Option Int → Option D
  | .lst xs, lo, hi => some (.lst (cut xs lo hi))
  | .tup xs, lo, hi => some (.tup (cut xs lo hi))
  | .str s, lo, hi => some (.str (cut s lo hi))
  | _, _, _ => none

def getF (f : Nat) : List (Nat × D) → Option D
  | [] => none
  | (k, v) :: r => if k == f then some v else getF f r
def putF (f : Nat) (v : D) : List (Nat × D) → List (Nat × D)
  | [] => [(f, v)]
  | (k, x) :: r => if k == f then (k, v) :: r else (k, x) :: putF f v r

/-- built-in functions and types -/
inductive Bi where
  | len | abs | sum | max | min | all | any | int | str | list | listL | tuple | sorted
  deriving DecidableEq

/-- the digits of a number, fuel by its size -/
def digs : Nat → Nat → List Nat → List Nat
  | 0, n, acc => (48 + n % 10) :: acc
  | f + 1, n, acc => if Nat.blt n 10 then (48 + n) :: acc else digs f (n / 10) ((48 + n % 10) :: acc)
def numT (n : Nat) : List Nat := digs n.log2 n []

def intsOf : List D → Option (List Int)
  | [] => some []
  | .int i :: r => (intsOf r).map (i :: ·)
  | _ :: _ => none
def bolsOf : List D → Option (List Bool)
  | [] => some []
  | .bl i :: r => (bolsOf r).map (i :: ·)
  | _ :: _ => none
def strsOf : List D → Option (List (List Nat))
  | [] => some []
  | .str i :: r => (strsOf r).map (i :: ·)
  | _ :: _ => none
def items : D → Option (List D)
  | .lst xs => some xs
  | .tup xs => some xs
  | _ => none
def maxL : List Int → Option Int
  | [] => none
  | [x] => some x
  | x :: r => (maxL r).map fun y => if x < y then y else x
def minL : List Int → Option Int
  | [] => none
  | [x] => some x
  | x :: r => (minL r).map fun y => if y < x then y else x

def isDig (c : Nat) : Bool := Nat.ble 48 c && Nat.ble c 57
def valT (s : List Nat) : Nat := s.foldl (fun a c => a * 10 + (c - 48)) 0

def bi : Bi → List D → Mem → Res D
  | .len, [d], M => match view M d with
    | .lst xs => .ok (.int xs.length) M
    | .tup xs => .ok (.int xs.length) M
    | .str s => .ok (.int s.length) M
    | _ => .bad
  | .abs, [.int i], M => .ok (.int (if i < 0 then -i else i)) M
  | .sum, [d], M => match view M d with
    | .lst xs => match intsOf xs with
      | some l => .ok (.int l.sum) M
      | none => .bad
    | _ => .bad
  | .max, [d], M => match view M d with
    | .lst xs => match intsOf xs with
      | some l => match maxL l with
        | some i => .ok (.int i) M
        | none => .bad
      | none => .bad
    | _ => .bad
  | .max, [.int i, .int j], M => .ok (.int (if j > i then j else i)) M
  | .min, [.int i, .int j], M => .ok (.int (if j < i then j else i)) M
  | .all, [.lst xs], M => match bolsOf xs with
    | some l => .ok (.bl (l.all id)) M
    | none => .bad
  | .any, [.lst xs], M => match bolsOf xs with
    | some l => .ok (.bl (l.any id)) M
    | none => .bad
  | .int, [.str s], M => if s.all isDig && Nat.blt 0 s.length && Nat.blt s.length 10 then .ok (.int (valT s)) M else .bad
  | .int, [.bl b], M => .ok (.int (if b then 1 else 0)) M
  | .str, [.int i], M => if decide (0 ≤ i) && Nat.blt i.toNat.log2 200 then .ok (.str (numT i.toNat)) M else .bad
  | .list, [d], M => match view M d with
    | .lst xs => .ok (.lst xs) M
    | .tup xs => .ok (.lst xs) M
    | _ => .bad
  | .listL, [d], M => match view M d with
    | .lst xs => mkL true xs M
    | .tup xs => mkL true xs M
    | _ => .bad
  | .tuple, [d], M => match view M d with
    | .lst xs => .ok (.tup xs) M
    | .tup xs => .ok (.tup xs) M
    | _ => .bad
  | _, _, _ => .bad

/-- methods of built-in types -/
inductive Bm where
  | append | pop | join | sindex | replace
  deriving DecidableEq

def joinT (sep : List Nat) : List (List Nat) → List Nat
  | [] => []
  | [x] => x
  | x :: r => x ++ sep ++ joinT sep r
def firstAt (c : Nat) : List Nat → Nat → Option Nat
  | [], _ => none
  | x :: r, i => if x == c then some i else firstAt c r (i + 1)
def small (i : Int) : Bool := decide (-4611686018427387904 ≤ i) && decide (i < 4611686018427387904)
def bm : Bm → D → List D → Mem → Res D
  | .append, .obj l, [d], M => match M[l]? with
    | some (.lst xs) => if Nat.blt xs.length top then .ok .non (M.set l (.lst (xs ++ [d]))) else .bad
    | _ => .bad
  | .pop, .obj l, [.int i], M => match M[l]? with
    | some (.lst xs) => match atI xs i with
        | some d => if decide (0 ≤ i) && small i then .ok d (M.set l (.lst (xs.eraseIdx i.toNat))) else .bad
        | none => .bad
    | _ => .bad
  | .pop, .obj l, [], M => match M[l]? with
    | some (.lst xs) => match xs[xs.length - 1]? with
        | some d => .ok d (M.set l (.lst xs.dropLast))
        | none => .bad
    | _ => .bad
  | .join, .str s, [d], M => match view M d with
    | .lst xs => match strsOf xs with
      | some l => if Nat.ble ((l.map List.length).sum + l.length * s.length) top then .ok (.str (joinT s l)) M else .bad
      | none => .bad
    | _ => .bad
  | _, _, _, _ => .bad

def bmOk (b : Bm) (x : D) (M : Mem) : Bool := match b, view M x with
  | .append, .lst _ => true
  | .pop, .lst _ => true
  | .join, .str _ => true
  | .sindex, .str _ => true
  | .replace, .str _ => true
  | _, _ => false
/-- types that isinstance is asked -/
inductive Ty where
  | bool | int | str | tuple | list
  deriving DecidableEq
def isaB : Ty → D → Option Bool
  | _, .non => some false
  | .bool, .bl _ => some true
  | .int, .bl _ => some true
  | _, .bl _ => some false
  | .int, .int _ => some true
  | _, .int _ => some false
  | .str, .str _ => some true
  | _, .str _ => some false
  | .tuple, .tup _ => some true
  | _, .tup _ => some false
  | .list, .lst _ => some true
  | _, .lst _ => some false
  | _, .dct _ _ => some false
  | _, _ => none
/-- what is assigned to -/
inductive Tg where
  | nm (i : Nat)
  | tp (is : List Nat)

/-- what an expression is. An argument list is nil, cons; what is gone through is src, rng1, rng2 -/
inductive Ex where
  | var (i : Nat)
  | cN
  | cB (b : Bool)
  | cI (i : Int)
  | cS (s : List Nat)
  | gl (x : Nat)
  | bin (o : BOp) (a b : Ex)
  | neg (a : Ex)
  | cmp (o : COp) (a b : Ex)
  | ch2 (o p : COp) (a b c : Ex)
  | ch3 (o p q : COp) (a b c d : Ex)
  | and (a b : Ex)
  | or (a b : Ex)
  | not (a : Ex)
  | ite (c a b : Ex)
  | nil
  | cons (e es : Ex)
  | tup (es : Ex)
  | lst (l : Bool) (es : Ex)
  | dsp (ks : List (List Nat)) (es : Ex)
  | idx (a b : Ex)
  | sl (l : Bool) (a lo hi : Ex)
  | call (f : Nat) (es : Ex)
  | pcall (f : Nat) (es : Ex)
  | meth (c m : Nat) (o es : Ex)
  | mk (c : Nat) (es : Ex)
  | bi (b : Bi) (es : Ex)
  | bm (b : Bm) (o es : Ex)
  | fld (f : Nat) (o : Ex)
  | isa (t : Ty) (e : Ex)
  | src (e : Ex)
  | srcS (e : Ex)
  | rng1 (a : Ex)
  | rng2 (a b : Ex)
  | comp (l : Bool) (t : Tg) (it c e : Ex)
  | err (e : Ex)

/-- what stands around: the own functions (by name), constants, methods, makers, fields, exception classes -/
structure Cn where
  has : Nat → Bool
  call : Nat → List D → Mem → Res D
  con : Nat → Option D
  meth : Nat → Nat → Option Nat
  init : Nat → Option Nat
  att : Nat → Nat → Bool
  exc : Nat → Option (List Nat)
  err : Exc → D

mutual
/-- no label within -/
def D.pure : D → Bool
  | .obj _ => false
  | .tup xs => D.pureL xs
  | .lst xs => D.pureL xs
  | .dct _ vs => D.pureL vs
  | _ => true
def D.pureL : List D → Bool
  | [] => true
  | x :: xs => D.pure x && D.pureL xs
end

/-- a written dict: other keys, few -/
def nodupK : List (List Nat) → Bool
  | [] => true
  | k :: ks => !ks.contains k && nodupK ks
def dspC (ks : List (List Nat)) : Bool := nodupK ks && Nat.ble ks.length 15 && !ks.isEmpty
/-- a call in an empty memory: what comes back bears no label -/
def pcall (C : Cn) (f : Nat) (args : List D) (M : Mem) : Res D :=
  match C.call f args [] with
  | .ok r _ => if D.pure r then .ok r M else .bad
  | .exc e _ => if e.fs.all (fun p => D.pure p.2) then .exc e M else .bad
  | .bad => .bad

/-- what is gone through: a list that may change, or fixed items -/
inductive Src where
  | live (d : D)
  | fix (lo : Int) (n : Nat)
  | chr (s : List Nat)
def upto (lo : Int) (n : Nat) : List D := (List.range n).map fun i : Nat => .int (lo + i)
def Src.size (s : Src) (M : Mem) : Option Nat := match s with
  | .live d => (items (view M d)).map List.length
  | .fix _ n => some n
  | .chr s => some s.length
def Src.at_ (s : Src) (M : Mem) (i : Nat) : Option D := match s with
  | .live d => (items (view M d)).bind fun xs => xs[i]?
  | .fix lo n => if Nat.blt i n then some (.int (lo + (i : Int))) else none
  | .chr s => (s[i]?).map fun c => .str [c]

def wipeR (r : Env) : List Nat → Env
  | [] => r
  | v :: vs => (wipeR r vs).set v none
def Tg.slots : Tg → List Nat
  | .nm i => [i]
  | .tp is => is
def setAll : List Nat → List D → Env → Env
  | i :: is, d :: ds, r => setAll is ds (r.set i (some d))
  | _, _, r => r
def Tg.to (t : Tg) (d : D) (r : Env) : Option Env := match t, d with
  | .nm i, d => some (r.set i (some d))
  | .tp is, .tup xs => if is.length == xs.length then some (setAll is xs r) else none
  | _, _ => none

/-- every item's value -/
def loopC (f : D → Mem → Res (Option D)) (s : Src) : Nat → Nat → Mem → List D → Res (List D)
  | n, i, M, acc => match s.size M with
    | none => .bad
    | some k => match s.at_ M i with
      | none => if Nat.ble k i then .ok acc M else .bad
      | some x => match n with
        | 0 => .bad
        | n + 1 => match f x M with
          | .ok (some y) M1 => if Nat.blt acc.length top then loopC f s n (i + 1) M1 (acc ++ [y]) else .bad
          | .ok none M1 => loopC f s n (i + 1) M1 acc
          | _ => .bad

mutual
def evE (C : Cn) : Ex → Env → Mem → Res D
  | .var i, r, M => match r[i]? with
    | some (some d) => .ok d M
    | _ => .bad
  | .cN, _, M => .ok .non M
  | .cB b, _, M => .ok (.bl b) M
  | .cI i, _, M => .ok (.int i) M
  | .cS s, _, M => .ok (.str s) M
  | .gl x, _, M => match C.con x with
    | some d => .ok d M
    | none => .bad
  | .bin o a b, r, M => (evE C a r M).bind fun x M => (evE C b r M).bind fun y M => bop o x y M
  | .neg a, r, M => (evE C a r M).bind fun x M => match x with
    | .int i => .ok (.int (-i)) M
    | _ => .bad
  | .cmp o a b, r, M => (evE C a r M).bind fun x M => (evE C b r M).bind fun y M => match cop o x y M with
    | some k => .ok (.bl k) M
    | none => .bad
  | .ch2 o p a b c, r, M => (evE C a r M).bind fun x M => (evE C b r M).bind fun y M => match cop o x y M with
    | some true => (evE C c r M).bind fun z M => match cop p y z M with
      | some k => .ok (.bl k) M
      | none => .bad
    | some false => .ok (.bl false) M
    | none => .bad
  | .ch3 o p q a b c d, r, M => (evE C a r M).bind fun x M => (evE C b r M).bind fun y M => match cop o x y M with
    | some true => (evE C c r M).bind fun z M => match cop p y z M with
      | some true => (evE C d r M).bind fun w M => match cop q z w M with
        | some k => .ok (.bl k) M
        | none => .bad
      | some false => .ok (.bl false) M
      | none => .bad
    | some false => .ok (.bl false) M
    | none => .bad
  | .and a b, r, M => (evE C a r M).bind fun x M => match x with
    | .bl true => evE C b r M
    | .bl false => .ok (.bl false) M
    | _ => .bad
  | .or a b, r, M => (evE C a r M).bind fun x M => match x with
    | .bl false => evE C b r M
    | .bl true => .ok (.bl true) M
    | _ => .bad
  | .not a, r, M => (evE C a r M).bind fun x M => match x with
    | .bl k => .ok (.bl (!k)) M
    | _ => .bad
  | .ite c a b, r, M => (evE C c r M).bind fun x M => match x with
    | .bl true => evE C a r M
    | .bl false => evE C b r M
    | _ => .bad
  | .tup es, r, M => (evA C es r M).bind fun xs M => if Nat.ble xs.length top then .ok (.tup xs) M else .bad
  | .lst l es, r, M => (evA C es r M).bind fun xs M => if Nat.ble xs.length top then mkL l xs M else .bad
  | .idx a b, r, M => (evE C a r M).bind fun x M => (evE C b r M).bind fun y M => match index (view M x) y with
    | some d => .ok d M
    | none => .bad
  | .sl l a lo hi, r, M => (evE C a r M).bind fun x M => (evP C lo r M).bind fun i M => (evP C hi r M).bind fun j M => match slice (view M x) i j with
    | some (.lst xs) => mkL l xs M
    | some d => if l then .bad else .ok d M
    | none => .bad
  | .call f es, r, M => if C.has f then (evA C es r M).bind fun xs M => C.call f xs M else .bad
  | .pcall f es, r, M => if C.has f then (evA C es r M).bind fun xs M => if D.pureL xs then pcall C f xs M else .bad else .bad
  | .dsp ks es, r, M => (evA C es r M).bind fun xs M => if ks.length == xs.length then .ok (.dct ks xs) M else .bad
  | .meth c m o es, r, M => match C.meth c m with
    | some f => (evE C o r M).bind fun x M => match x with
      | .obj l => match M[l]? with
        | some (.ins c' fs) => match getF m fs with
          | none => if c == c' then (evA C es r M).bind fun xs M => C.call f (.obj l :: xs) M else .bad
          | some _ => .bad
        | _ => .bad
      | _ => .bad
    | none => .bad
  | .mk c es, r, M => match C.init c with
    | some f => (evA C es r M).bind fun xs M => (C.call f (.obj M.length :: xs) (M ++ [.ins c []])).bind fun d M' => if isNon d then .ok (.obj M.length) M' else .bad
    | none => .bad
  | .isa t a, r, M => (evE C a r M).bind fun x M => match isaB t (view M x) with
    | some b => .ok (.bl b) M
    | none => .bad
  | .bi b es, r, M => (evA C es r M).bind fun xs M => bi b xs M
  | .bm b o es, r, M => (evE C o r M).bind fun x M => if bmOk b x M then (evA C es r M).bind fun xs M => bm b x xs M else .bad
  | .fld f o, r, M => (evE C o r M).bind fun x M => match x with
    | .obj l => match M[l]? with
      | some (.ins c fs) => match getF f fs with
        | some d => if C.att c f then .ok d M else .bad
        | none => .bad
      | _ => .bad
    | _ => .bad
  | .comp l t it c e, r, M => (evI C it r M).bind fun s M => match s.size M with
    | some k => (loopC (fun x M => match t.to x (wipeR r t.slots) with
        | some r => match evE C c r M with
          | .ok (.bl true) M => match evE C e r M with
            | .ok d M => .ok (some d) M
            | _ => .bad
          | .ok (.bl false) M => .ok none M
          | _ => .bad
        | none => .bad) s k 0 M []).bind fun ys M => mkL l ys M
    | none => .bad
  | _, _, _ => .bad
def evA (C : Cn) : Ex → Env → Mem → Res (List D)
  | .nil, _, M => .ok [] M
  | .cons e es, r, M => (evE C e r M).bind fun x M => (evA C es r M).bind fun xs M => .ok (x :: xs) M
  | _, _, _ => .bad
/-- an optional part of a slice -/
def evP (C : Cn) : Ex → Env → Mem → Res (Option Int)
  | .nil, _, M => .ok none M
  | .cons e .nil, r, M => (evE C e r M).bind fun x M => match x with
    | .int i => .ok (some i) M
    | _ => .bad
  | _, _, _ => .bad
/-- what is gone through -/
def evI (C : Cn) : Ex → Env → Mem → Res Src
  | .src e, r, M => (evE C e r M).bind fun x M => if (items (view M x)).isSome then .ok (.live x) M else .bad
  | .srcS e, r, M => (evE C e r M).bind fun x M => match x with
    | .str s => .ok (.chr s) M
    | _ => .bad
  | .rng1 a, r, M => (evE C a r M).bind fun x M => match x with
    | .int j => if small j then .ok (.fix 0 j.toNat) M else .bad
    | _ => .bad
  | .rng2 a b, r, M => (evE C a r M).bind fun x M => (evE C b r M).bind fun y M => match x, y with
    | .int i, .int j => if small i && small j then .ok (.fix i (j - i).toNat) M else .bad
    | _, _ => .bad
  | _, _, _ => .bad
end

/-! ### statements -/
inductive Oc where
  | nx (r : Env) (M : Mem)
  | rt (d : D) (M : Mem)
  | bk (r : Env) (M : Mem)
  | ct (r : Env) (M : Mem)
  | ex (e : Exc) (r : Env) (M : Mem)
  | bad
def Res.st {α : Type} (x : Res α) (r : Env) (f : α → Mem → Oc) : Oc := match x with
  | .ok a M => f a M
  | .exc e M => .ex e r M
  | .bad => .bad

inductive St where
  | nop
  | brk
  | cnt
  | ret (e : Ex)
  | exp (e : Ex)
  | set (t : Tg) (e : Ex)
  | par (is : List Nat) (es : Ex)
  | aug (o : BOp) (i : Nat) (e : Ex)
  | put (o i e : Ex)
  | fld (f : Nat) (o e : Ex)
  | fldA (p : BOp) (f : Nat) (o e : Ex)
  | ite (c : Ex) (a b : St)
  | whl (n : Nat) (c : Ex) (b : St)
  | for_ (t : Tg) (it : Ex) (b : St)
  | rse (c : Nat) (es : Ex)
  | rse0 (c : Nat)
  | seq (a b : St)

def loopW (c : Env → Mem → Res D) (b : Env → Mem → Oc) : Nat → Env → Mem → Oc
  | 0, _, _ => .bad
  | n + 1, r, M => (c r M).st r fun d M => match d with
    | .bl true => match b r M with
      | .nx r M => loopW c b n r M
      | .ct r M => loopW c b n r M
      | .bk r M => .nx r M
      | o => o
    | .bl false => .nx r M
    | _ => .bad
def loopF (t : Tg) (b : Env → Mem → Oc) (s : Src) : Nat → Nat → Env → Mem → Oc
  | n, i, r, M => match s.size M with
    | none => .bad
    | some k => match s.at_ M i with
      | none => if Nat.ble k i then .nx r M else .bad
      | some x => match n with
        | 0 => .bad
        | n + 1 => match t.to x r with
          | some r => match b r M with
            | .nx r M => loopF t b s n (i + 1) r M
            | .ct r M => loopF t b s n (i + 1) r M
            | .bk r M => .nx r M
            | o => o
          | none => .bad

/-- x += y -/
def aop : BOp → D → D → Mem → Res D
  | .add, .int i, .int j, M => .ok (.int (i + j)) M
  | .sub, .int i, .int j, M => .ok (.int (i - j)) M
  | _, _, _, _ => .bad
def setM (M : Mem) (l : Nat) (y : D) (d : D) : Option Mem := match M[l]?, y with
  | some (.lst xs), .int i => (ixN xs.length i).map fun j => M.set l (.lst (xs.set j d))
  | _, _ => none

def exS (C : Cn) : St → Env → Mem → Oc
  | .nop, r, M => .nx r M
  | .brk, r, M => .bk r M
  | .cnt, r, M => .ct r M
  | .ret e, r, M => (evE C e r M).st r fun d M => .rt d M
  | .exp e, r, M => (evE C e r M).st r fun _ M => .nx r M
  | .set t e, r, M => (evE C e r M).st r fun d M => match t.to d r with
    | some r => .nx r M
    | none => .bad
  | .par is es, r, M => (evA C es r M).st r fun ds M => if is.length == ds.length then .nx (setAll is ds r) M else .bad
  | .aug o i e, r, M => match r[i]? with
    | some (some x) => (evE C e r M).st r fun y M => (aop o x y M).st r fun z M => .nx (r.set i (some z)) M
    | _ => .bad
  | .put o i e, r, M => (evE C e r M).st r fun d M => (evE C o r M).st r fun x M => (evE C i r M).st r fun y M => match x with
    | .obj l => match setM M l y d with
      | some M => .nx r M
      | none => .bad
    | _ => .bad
  | .fld f o e, r, M => (evE C e r M).st r fun d M => (evE C o r M).st r fun x M => match x with
    | .obj l => match M[l]? with
      | some (.ins c fs) => if C.att c f && Nat.blt fs.length 900 then .nx r (M.set l (.ins c (putF f d fs))) else .bad
      | _ => .bad
    | _ => .bad
  | .fldA p f o e, r, M => (evE C o r M).st r fun x M => match x with
    | .obj l => match M[l]? with
      | some (.ins c fs) => match getF f fs with
        | some y => if C.att c f then (evE C e r M).st r fun d M => (aop p y d M).st r fun z M => match M[l]? with
          | some (.ins c' fs) => if c == c' && Nat.blt fs.length 900 then .nx r (M.set l (.ins c' (putF f z fs))) else .bad
          | _ => .bad
          else .bad
        | none => .bad
      | _ => .bad
    | _ => .bad
  | .ite c a b, r, M => (evE C c r M).st r fun d M => match d with
    | .bl true => exS C a r M
    | .bl false => exS C b r M
    | _ => .bad
  | .whl n c b, r, M => loopW (evE C c) (exS C b) n r M
  | .for_ t it b, r, M => (evI C it r M).st r fun s M => match s.size M with
    | some k => loopF t (exS C b) s k 0 r M
    | none => .bad
  | .rse c es, r, M => match C.exc c with
    | some (f :: fs) => (evA C es r M).st r fun xs M => if fs.length + 1 == xs.length && Nat.blt xs.length 9 then .ex ⟨c, ((f :: fs).zip xs).reverse⟩ r M else .bad
    | _ => .bad
  | .rse0 c, r, M => match C.exc c with
    | some [] => .ex ⟨c, []⟩ r M
    | _ => .bad
  | .seq a b, r, M => match exS C a r M with
    | .nx r M => exS C b r M
    | o => o

/-! ### programs -/
structure Fn where
  np : Nat
  n : Nat
  body : St
structure Prog where
  fn : Nat → Option Fn
  glob : Nat → Bool
  con : Nat → Option D
  meth : Nat → Nat → Option Nat
  init : Nat → Option Nat
  att : Nat → Nat → Bool
  exc : Nat → Option (List Nat)
  err : Exc → D
def Prog.cn (P : Prog) (call : Nat → List D → Mem → Res D) : Cn := ⟨P.glob, call, P.con, P.meth, P.init, P.att, P.exc, P.err⟩
def Oc.res : Oc → Res D
  | .nx _ M => .ok .non M
  | .rt d M => .ok d M
  | .ex e _ M => .exc e M
  | _ => .bad
def begin_ (n : Nat) (args : List D) : Env := args.map some ++ List.replicate (n - args.length) none
def runF (P : Prog) : Nat → Nat → List D → Mem → Res D
  | 0, _, _, _ => .bad
  | k + 1, f, args, M => match P.fn f with
    | some F => if args.length == F.np then (exS (P.cn (runF P k)) F.body (begin_ F.n args) M).res else .bad
    | none => .bad
end Cy
end

section
set_option Elab.async false
set_option linter.all false
set_option maxRecDepth 100000
set_option maxHeartbeats 4000000
/-! What a value of the small language stands for in the abstract heap. -/
namespace Cy
open PySem PySem.Spec PyProof.Rows L2

/-- a text by its signs -/
def sg (s : List Nat) : Str := ⟨s.toArray⟩
def okS (s : List Nat) : Prop := s.length ≤ sizeLine ∧ ∀ c ∈ s, c < 1114112
theorem sg_inj {s t : List Nat} (h : sg s = sg t) : s = t := by
  have e : s.toArray = t.toArray := congrArg Str.cps h
  simpa using congrArg Array.toList e
theorem sg_len (s : List Nat) : (sg s).length = s.length := by
  show s.toArray.size = s.length
  simp
theorem sg_app (s t : List Nat) : sg s ++ sg t = sg (s ++ t) := by
  show (⟨s.toArray ++ t.toArray⟩ : Str) = ⟨(s ++ t).toArray⟩
  simp
theorem sg_list (s : List Nat) : (sg s).cps.toList = s := by
  show s.toArray.toList = s
  simp

/-- the fixed things: the written part, the names, the classes' addresses -/
structure Gn where
  K : PySem.W.Frag
  w : World
  nm : Nat → Str
  cl : Nat → Addr
  inj : ∀ f g, nm f = nm g → f = g

abbrev Vv := L2.V

/-- a list of the written part stands at a -/
def KLs (G : Gn) (a : Addr) (xs : List Vv) : Prop := ∃ (o : Obj) (its : Array Value) (n : Nat), G.K.lookup a = some o ∧ o.cls = .type "list" ∧ o.dict = none ∧ o.data = .seq its n ∧ its.size ≤ sizeLine ∧ Vals xs its.toList
theorem KLs.sq {G : Gn} {H : Hp} {a : Addr} {xs : List Vv} {U : List Addr} (h : (Rd H a (.lst xs) ∧ a ∉ U) ∨ KLs G a xs) : SqL G.K H a xs := h.imp And.left id
/-- a written dict stands at a, with these values -/
def KDk (G : Gn) (a : Addr) (kvs : List (Key × Vv)) : Prop := (∃ es n, KDict G.K G.w a es n) ∧ ∀ z : Str, (valV kvs (Sum.inr z) = none → PySem.W.nsIn G.K a z = some none) ∧
  ∀ v, valV kvs (Sum.inr z) = some v → ∃ u, PySem.W.nsIn G.K a z = some (some u) ∧ RelV v u
section
variable (G : Gn) (U ads : List Addr) (H : Hp)
mutual
/-- v is d -/
def Den : D → Vv → Prop
  | .non, v => v = .non
  | .bl b, v => v = .bl b
  | .int i, v => v = .int i
  | .str s, v => v = .str (sg s) ∧ okS s
  | .tup xs, v => ∃ a vs, v = .ref a ∧ SqT G.K H a vs ∧ DenL xs vs
  | .lst xs, v => ∃ a vs, v = .ref a ∧ ((Rd H a (.lst vs) ∧ a ∉ U) ∨ KLs G a vs) ∧ DenL xs vs
  | .dct ks ds, v => ∃ a kvs, v = .ref a ∧ ((H a = some (.dK kvs) ∧ a ∉ U) ∨ KDk G a kvs) ∧ DenD ks ds kvs
  | .obj l, v => ∃ a, v = .ref a ∧ ads[l]? = some a
def DenL : List D → List Vv → Prop
  | [], vs => vs = []
  | d :: ds, vs => ∃ v r, vs = v :: r ∧ Den d v ∧ DenL ds r
def DenD : List (List Nat) → List D → List (Key × Vv) → Prop
  | ks, [], kvs => ks = [] ∧ kvs = []
  | ks, d :: ds, kvs => ∃ k kr v r, ks = k :: kr ∧ kvs = (Sum.inr (sg k), v) :: r ∧ okS k ∧ Den d v ∧ DenD kr ds r
end
def Flds : List (Nat × D) → List (Str × Vv) → Prop
  | [], gs => gs = []
  | (f, d) :: r, gs => ∃ v q, gs = (G.nm f, v) :: q ∧ Den G U ads H d v ∧ Flds r q
/-- the object at a -/
def ObjD : MO → Addr → Prop
  | .lst xs, a => ∃ vs, H a = some (.lst vs) ∧ DenL G U ads H xs vs
  | .ins c fs, a => ∃ dx gs, H a = some (.ins (G.cl c) dx gs) ∧ Flds G U ads H fs gs
  | .dct ks ds, a => ∃ kvs, H a = some (.dK kvs) ∧ DenD G U ads H ks ds kvs
structure MemOk (M : Mem) : Prop where
  len : ads.length = M.length
  nd : ads.Nodup
  sub : ∀ a ∈ ads, a ∈ U
  trk : ∀ a ∈ U, H a ≠ none
  at_ : ∀ (l : Nat) (o : MO) (a : Addr), M[l]? = some o → ads[l]? = some a → ObjD G U ads H o a
end

/-- from (U, ads, H) to H': ext the labels that are new -/
structure Stp (G : Gn) (U ads : List Addr) (H : Hp) (ext : List Addr) (M' : Mem) (H' : Hp) : Prop where
  new : ∀ a ∈ ext, H a = none
  keep : ∀ a o, H a = some o → a ∉ ads → (∀ ps, o ≠ .tbl ps) → H' a = some o
  dom : ∀ a, H a ≠ none → H' a ≠ none
  mem : MemOk G (U ++ ext) (ads ++ ext) H' M'

section
variable {G : Gn} {U ads : List Addr} {H H' H'' : Hp} {ext ext' : List Addr} {M M' M'' : Mem}

theorem MemOk.notTup (m : MemOk G U ads H M) {a : Addr} {xs : List Vv} (h : H a = some (.tup xs)) : a ∉ ads := fun hm => by
  obtain ⟨l, hl, e⟩ := List.getElem_of_mem hm
  have e1 : ads[l]? = some a := by rw [List.getElem?_eq_getElem hl, e]
  have hl2 : l < M.length := by rw [← m.len]; exact hl
  have e2 : M[l]? = some M[l] := List.getElem?_eq_getElem hl2
  have q := m.at_ l _ a e2 e1
  cases ho : M[l] with
  | lst ys => rw [ho] at q; obtain ⟨vs, q, _⟩ := q; rw [h] at q; cases q
  | ins c fs => rw [ho] at q; obtain ⟨dx, gs, q, _⟩ := q; rw [h] at q; cases q
  | dct ks vs => rw [ho] at q; obtain ⟨kvs, q, _⟩ := q; rw [h] at q; cases q

/-- how a reading stays: what it needs of the step -/
structure Kp (G : Gn) (U ads : List Addr) (H : Hp) (U' ads' : List Addr) (H' : Hp) : Prop where
  tup : ∀ a xs, SqT G.K H a xs → SqT G.K H' a xs
  lst : ∀ a xs, Rd H a (.lst xs) → a ∉ U → Rd H' a (.lst xs) ∧ a ∉ U'
  dct : ∀ a kvs, H a = some (.dK kvs) → a ∉ U → H' a = some (.dK kvs) ∧ a ∉ U'
  lab : ∀ (l : Nat) a, ads[l]? = some a → ads'[l]? = some a

variable {U' ads' : List Addr}
mutual
theorem Den.kp (k : Kp G U ads H U' ads' H') : ∀ (d : D) (v : Vv), Den G U ads H d v → Den G U' ads' H' d v
  | .non, _, h => h
  | .bl _, _, h => h
  | .int _, _, h => h
  | .str _, _, h => h
  | .tup xs, v, h => by
    obtain ⟨a, vs, e, q, r⟩ := h
    exact ⟨a, vs, e, k.tup a vs q, DenL.kp k xs vs r⟩
  | .lst xs, v, h => by
    obtain ⟨a, vs, e, q, r⟩ := h
    exact ⟨a, vs, e, q.imp (fun z => k.lst a vs z.1 z.2) id, DenL.kp k xs vs r⟩
  | .dct ks ds, v, h => by
    obtain ⟨a, kvs, e, q, r⟩ := h
    exact ⟨a, kvs, e, q.imp (fun z => k.dct a kvs z.1 z.2) id, DenD.kp k ks ds kvs r⟩
  | .obj l, v, h => by
    obtain ⟨a, e, q⟩ := h
    exact ⟨a, e, k.lab l a q⟩
theorem DenL.kp (k : Kp G U ads H U' ads' H') : ∀ (ds : List D) (vs : List Vv), DenL G U ads H ds vs → DenL G U' ads' H' ds vs
  | [], _, h => h
  | d :: ds, _, h => by
    obtain ⟨v, r, e, h1, h2⟩ := h
    exact ⟨v, r, e, Den.kp k d v h1, DenL.kp k ds r h2⟩
theorem DenD.kp (k : Kp G U ads H U' ads' H') : ∀ (ks : List (List Nat)) (ds : List D) (kvs : List (Key × Vv)), DenD G U ads H ks ds kvs → DenD G U' ads' H' ks ds kvs
  | _, [], _, h => h
  | _, d :: ds, _, h => by
    obtain ⟨c, kr, v, r, e1, e2, h0, h1, h2⟩ := h
    exact ⟨c, kr, v, r, e1, e2, h0, Den.kp k d v h1, DenD.kp k kr ds r h2⟩
end
theorem Flds.kp (k : Kp G U ads H U' ads' H') : ∀ (fs : List (Nat × D)) (gs : List (Str × Vv)), Flds G U ads H fs gs → Flds G U' ads' H' fs gs
  | [], _, h => h
  | (f, d) :: r, _, h => by
    obtain ⟨v, q, e, h1, h2⟩ := h
    exact ⟨v, q, e, h1.kp k, Flds.kp k r q h2⟩

theorem Stp.kp (m : MemOk G U ads H M) (s : Stp G U ads H ext M' H') : Kp G U ads H (U ++ ext) (ads ++ ext) H' where
  tup := fun a xs h => by
    rcases h with (h | ⟨o, h⟩) | h
    · exact .inl (.inl (s.keep a _ h (m.notTup h) (fun _ z => by cases z)))
    · refine .inl (.inr ⟨o, s.keep a _ h (fun hm => ?_) (fun _ z => by cases z)⟩)
      obtain ⟨l, hl, e⟩ := List.getElem_of_mem hm
      have e1 : ads[l]? = some a := by rw [List.getElem?_eq_getElem hl, e]
      have hl2 : l < M.length := by rw [← m.len]; exact hl
      have q := m.at_ l _ a (List.getElem?_eq_getElem hl2) e1
      cases ho : M[l] with
      | lst ys => rw [ho] at q; obtain ⟨vs, q, _⟩ := q; rw [h] at q; cases q
      | ins c fs => rw [ho] at q; obtain ⟨dx, gs, q, _⟩ := q; rw [h] at q; cases q
      | dct ks vs => rw [ho] at q; obtain ⟨kvs, q, _⟩ := q; rw [h] at q; cases q
    · exact .inr h
  lst := fun a xs h n => by
    have na : a ∉ ads := fun z => n (m.sub a z)
    refine ⟨?_, fun z => ?_⟩
    · rcases h with h | ⟨o, h⟩
      · exact .inl (s.keep a _ h na (fun _ z => by cases z))
      · exact .inr ⟨o, s.keep a _ h na (fun _ z => by cases z)⟩
    · rcases List.mem_append.mp z with z | z
      · exact n z
      · have q := s.new a z
        rcases h with h | ⟨o, h⟩ <;> (rw [q] at h; cases h)
  dct := fun a kvs h n => by
    have na : a ∉ ads := fun z => n (m.sub a z)
    refine ⟨s.keep a _ h na (fun _ z => by cases z), fun z => ?_⟩
    rcases List.mem_append.mp z with z | z
    · exact n z
    · have q := s.new a z
      rw [q] at h; cases h
  lab := fun l a h => by
    rw [List.getElem?_append_left (List.getElem?_eq_some_iff.mp h).1]
    exact h

theorem Den.stp {d : D} {v : Vv} (h : Den G U ads H d v) (m : MemOk G U ads H M) (s : Stp G U ads H ext M' H') : Den G (U ++ ext) (ads ++ ext) H' d v := Den.kp (s.kp m) d v h
theorem DenL.stp {d : List D} {v : List Vv} (h : DenL G U ads H d v) (m : MemOk G U ads H M) (s : Stp G U ads H ext M' H') : DenL G (U ++ ext) (ads ++ ext) H' d v := DenL.kp (s.kp m) d v h

theorem Stp.refl (m : MemOk G U ads H M) : Stp G U ads H [] M H :=
  ⟨fun _ h => (by cases h), fun _ _ h _ _ => h, fun _ h => h, by simpa using m⟩
theorem Stp.trans (a : Stp G U ads H ext M' H') (b : Stp G (U ++ ext) (ads ++ ext) H' ext' M'' H'') : Stp G U ads H (ext ++ ext') M'' H'' where
  new := fun x hx => by
    rcases List.mem_append.mp hx with z | z
    · exact a.new x z
    · cases e : H x with
      | none => rfl
      | some o =>
        have q := a.dom x (by rw [e]; simp)
        exact absurd (b.new x z) q
  keep := fun x o h n t => by
    refine b.keep x o (a.keep x o h n t) (fun z => ?_) t
    rcases List.mem_append.mp z with z | z
    · exact n z
    · rw [a.new x z] at h; cases h
  dom := fun x h => b.dom x (a.dom x h)
  mem := by
    have q := b.mem
    simpa [List.append_assoc] using q

theorem DenL.length : ∀ {ds : List D} {vs : List Vv}, DenL G U ads H ds vs → ds.length = vs.length
  | [], _, h => by
    have e : _ = [] := h
    rw [e]; rfl
  | d :: ds, _, h => by
    obtain ⟨v, r, e, _, h2⟩ := h
    rw [e, List.length_cons, List.length_cons, DenL.length h2]
theorem DenL.get : ∀ {ds : List D} {vs : List Vv} {i : Nat} {d : D}, DenL G U ads H ds vs → ds[i]? = some d → ∃ v, vs[i]? = some v ∧ Den G U ads H d v
  | [], _, _, _, _, e => by simp at e
  | x :: ds, _, 0, d, h, e => by
    obtain ⟨v, r, q, h1, h2⟩ := h
    simp at e; subst e; subst q
    exact ⟨v, by simp, h1⟩
  | x :: ds, _, i + 1, d, h, e => by
    obtain ⟨v, r, q, h1, h2⟩ := h
    subst q
    obtain ⟨w, a, b⟩ := DenL.get (i := i) h2 (by simpa using e)
    exact ⟨w, by simpa using a, b⟩
theorem DenL.app : ∀ {ds es : List D} {vs ws : List Vv}, DenL G U ads H ds vs → DenL G U ads H es ws → DenL G U ads H (ds ++ es) (vs ++ ws)
  | [], _, _, _, h, k => by
    have e : _ = [] := h
    rw [e]; exact k
  | d :: ds, _, _, _, h, k => by
    obtain ⟨v, r, e, h1, h2⟩ := h
    subst e
    exact ⟨v, _, rfl, h1, DenL.app h2 k⟩
theorem DenL.drop : ∀ {ds : List D} {vs : List Vv} (n : Nat), DenL G U ads H ds vs → DenL G U ads H (ds.drop n) (vs.drop n)
  | _, _, 0, h => by simpa using h
  | [], _, n + 1, h => by
    have e : _ = [] := h
    rw [e]; simp [DenL]
  | d :: ds, _, n + 1, h => by
    obtain ⟨v, r, e, h1, h2⟩ := h
    subst e
    simpa using DenL.drop n h2
theorem DenL.take : ∀ {ds : List D} {vs : List Vv} (n : Nat), DenL G U ads H ds vs → DenL G U ads H (ds.take n) (vs.take n)
  | _, _, 0, h => by simp [DenL]
  | [], _, n + 1, h => by
    have e : _ = [] := h
    rw [e]; simp [DenL]
  | d :: ds, _, n + 1, h => by
    obtain ⟨v, r, e, h1, h2⟩ := h
    subst e
    simp only [List.take_succ_cons]
    exact ⟨v, _, rfl, h1, DenL.take n h2⟩
theorem DenL.set {d : D} {v : Vv} (hd : Den G U ads H d v) : ∀ {ds : List D} {vs : List Vv} (n : Nat), DenL G U ads H ds vs → DenL G U ads H (ds.set n d) (vs.set n v)
  | [], _, n, h => by
    have e : _ = [] := h
    rw [e]; simp [DenL]
  | x :: ds, _, 0, h => by
    obtain ⟨w, r, e, h1, h2⟩ := h
    subst e
    exact ⟨v, r, rfl, hd, h2⟩
  | x :: ds, _, n + 1, h => by
    obtain ⟨w, r, e, h1, h2⟩ := h
    subst e
    exact ⟨w, _, rfl, h1, DenL.set hd n h2⟩
theorem DenL.erase : ∀ {ds : List D} {vs : List Vv} (n : Nat), DenL G U ads H ds vs → DenL G U ads H (ds.eraseIdx n) (vs.eraseIdx n)
  | [], _, n, h => by
    have e : _ = [] := h
    rw [e]; simp [DenL]
  | x :: ds, _, 0, h => by
    obtain ⟨w, r, e, h1, h2⟩ := h
    subst e
    simpa using h2
  | x :: ds, _, n + 1, h => by
    obtain ⟨w, r, e, h1, h2⟩ := h
    subst e
    exact ⟨w, _, rfl, h1, DenL.erase n h2⟩
end
end Cy
end

section
set_option Elab.async false
set_option linter.all false
set_option maxRecDepth 100000
set_option maxHeartbeats 4000000
/-! Results of the small language as wishes over the abstract heap. -/
namespace Cy
open PySem PySem.Spec PyProof.Rows L2

/-- the exception e lies with the class cls and the dict d -/
def ExD (G : Gn) (U ads : List Addr) (H : Hp) (e : Exc) (cls : Value) (d : Option Addr) : Prop :=
  cls = .ref (G.cl e.cls) ∧ ((e.fs = [] ∧ d = none) ∨ ∃ dd gs, d = some dd ∧ H dd = some (.xd gs) ∧ Flds G U ads H e.fs gs)

/-- what is wanted of a result -/
def Wk (G : Gn) {α β : Type} (R : List Addr → List Addr → Hp → α → β → Prop) (U ads : List Addr) (H : Hp) (r : Res α) (Q : β → Hp → Prop) (E : XK) : Prop :=
  match r with
  | .ok a M' => ∀ ext b H', Stp G U ads H ext M' H' → R (U ++ ext) (ads ++ ext) H' a b → Q b H'
  | .exc e M' => ∀ ext cls d H', Stp G U ads H ext M' H' → ExD G (U ++ ext) (ads ++ ext) H' e cls d → E cls d H'
  | .bad => False

section
variable {G : Gn} {α β γ δ : Type} {R : List Addr → List Addr → Hp → α → β → Prop} {R2 : List Addr → List Addr → Hp → γ → δ → Prop} {U ads ext : List Addr} {H H' : Hp} {M M' : Mem} {E : XK}

theorem Wk.shift {r : Res α} {Q : β → Hp → Prop} (h : Wk G R U ads H r Q E) (s : Stp G U ads H ext M' H') : Wk G R (U ++ ext) (ads ++ ext) H' r Q E := by
  cases r with
  | bad => exact h
  | ok a M2 =>
    intro ext2 b H2 s2 hr
    refine h (ext ++ ext2) b H2 (s.trans s2) ?_
    rw [← List.append_assoc, ← List.append_assoc]
    exact hr
  | exc e M2 =>
    intro ext2 cls d H2 s2 hr
    refine h (ext ++ ext2) cls d H2 (s.trans s2) ?_
    rw [← List.append_assoc, ← List.append_assoc]
    exact hr
theorem Wk.bind {r : Res α} {f : α → Mem → Res γ} {Q : δ → Hp → Prop} (h : Wk G R2 U ads H (r.bind f) Q E) :
    Wk G R U ads H r (fun b H1 => ∃ ext a M1, r = .ok a M1 ∧ Stp G U ads H ext M1 H1 ∧ R (U ++ ext) (ads ++ ext) H1 a b ∧ Wk G R2 (U ++ ext) (ads ++ ext) H1 (f a M1) Q E) E := by
  cases r with
  | bad => exact h
  | exc e M2 => exact h
  | ok a M1 =>
    intro ext b H1 s hr
    exact ⟨ext, a, M1, rfl, s, hr, Wk.shift (show Wk G R2 U ads H (f a M1) Q E from h) s⟩
theorem Wk.mono {r : Res α} {Q Q' : β → Hp → Prop} (h : Wk G R U ads H r Q E) (k : ∀ b H1, Q b H1 → Q' b H1) : Wk G R U ads H r Q' E := by
  cases r with
  | bad => exact h
  | exc e M2 => exact h
  | ok a M1 =>
    intro ext b H1 s hr
    exact k b H1 (h ext b H1 s hr)

/-- where nothing that is read changes -/
theorem MemOk.keep {H' : Hp} (m : MemOk G U ads H M) (k : Kp G U ads H U ads H') (same : ∀ a ∈ ads, H' a = H a) (dom : ∀ a, H a ≠ none → H' a ≠ none) : MemOk G U ads H' M where
  len := m.len
  nd := m.nd
  sub := m.sub
  trk := fun a ha => dom a (m.trk a ha)
  at_ := fun l o a h1 h2 => by
    have q := m.at_ l o a h1 h2
    have e := same a (List.mem_of_getElem? h2)
    cases o with
    | lst xs => obtain ⟨vs, q1, q2⟩ := q; exact ⟨vs, e.trans q1, q2.kp k⟩
    | ins c fs => obtain ⟨dx, gs, q1, q2⟩ := q; exact ⟨dx, gs, e.trans q1, Flds.kp k _ _ q2⟩
    | dct ks ds => obtain ⟨kvs, q1, q2⟩ := q; exact ⟨kvs, e.trans q1, q2.kp k⟩
theorem Kp.laid {p : Addr} {o : HO} (hp : H p = none) : Kp G U ads H U ads (upd H p o) where
  tup := fun a xs h => by
    rcases h with (h | ⟨u, h⟩) | h
    · exact .inl (.inl ((upd_ne (ne_of_none h hp)).trans h))
    · exact .inl (.inr ⟨u, (upd_ne (ne_of_none h hp)).trans h⟩)
    · exact .inr h
  lst := fun a xs h n => by
    refine ⟨?_, n⟩
    rcases h with h | ⟨u, h⟩
    · exact .inl ((upd_ne (ne_of_none h hp)).trans h)
    · exact .inr ⟨u, (upd_ne (ne_of_none h hp)).trans h⟩
  dct := fun a kvs h n => ⟨(upd_ne (ne_of_none h hp)).trans h, n⟩
  lab := fun _ _ h => h
theorem upd_dom {p : Addr} {o : HO} (a : Addr) (h : H a ≠ none) : upd H p o a ≠ none := by
  unfold upd
  split
  · simp
  · exact h
theorem MemOk.ne {p a : Addr} (m : MemOk G U ads H M) (hp : H p = none) (ha : a ∈ ads) : a ≠ p := fun e => by
  have := m.trk a (m.sub a ha)
  rw [e] at this
  exact this hp
/-- a new object that is no label -/
theorem Stp.laid {p : Addr} {o : HO} (m : MemOk G U ads H M) (hp : H p = none) : Stp G U ads H [] M (upd H p o) where
  new := fun _ h => by cases h
  keep := fun a u h _ _ => (upd_ne (ne_of_none h hp)).trans h
  dom := fun a h => upd_dom a h
  mem := by
    simp only [List.append_nil]
    exact m.keep (Kp.laid hp) (fun a ha => upd_ne (m.ne hp ha)) (fun a h => upd_dom a h)
theorem Wk.now {d : D} {v : Vv} {Q : Vv → Hp → Prop} (h : Wk G (Den G) U ads H (.ok d M) Q E) (m : MemOk G U ads H M) (r : Den G U ads H d v) : Q v H :=
  h [] v H (Stp.refl m) (by simpa using r)
theorem Wk.nowL {d : List D} {v : List Vv} {Q : List Vv → Hp → Prop} (h : Wk G (DenL G) U ads H (.ok d M) Q E) (m : MemOk G U ads H M) (r : DenL G U ads H d v) : Q v H :=
  h [] v H (Stp.refl m) (by simpa using r)
theorem Den.laid {p : Addr} {o : HO} (hp : H p = none) {d : D} {v : Vv} (r : Den G U ads H d v) : Den G U ads (upd H p o) d v := Den.kp (Kp.laid hp) d v r
theorem DenL.laid {p : Addr} {o : HO} (hp : H p = none) {d : List D} {v : List Vv} (r : DenL G U ads H d v) : DenL G U ads (upd H p o) d v := DenL.kp (Kp.laid hp) d v r
/-- a new tuple, a new list -/
theorem Wk.tup {ds : List D} {vs : List Vv} {Q : Vv → Hp → Prop} (h : Wk G (Den G) U ads H (.ok (.tup ds) M) Q E) (m : MemOk G U ads H M) (r : DenL G U ads H ds vs) {p : Addr} (hp : H p = none) : Q (.ref p) (upd H p (.tup vs)) := by
  refine h [] _ _ (Stp.laid m hp) ?_
  simp only [List.append_nil]
  exact ⟨p, vs, rfl, .inl (.inl upd_same), r.laid hp⟩
theorem MemOk.notU {p : Addr} (m : MemOk G U ads H M) (hp : H p = none) : p ∉ U := fun h => m.trk p h hp
theorem Wk.lst {ds : List D} {vs : List Vv} {Q : Vv → Hp → Prop} (h : Wk G (Den G) U ads H (.ok (.lst ds) M) Q E) (m : MemOk G U ads H M) (r : DenL G U ads H ds vs) {p : Addr} (hp : H p = none) : Q (.ref p) (upd H p (.lst vs)) := by
  refine h [] _ _ (Stp.laid m hp) ?_
  simp only [List.append_nil]
  exact ⟨p, vs, rfl, .inl ⟨.inl upd_same, m.notU hp⟩, r.laid hp⟩

/-- a new object p that becomes a label -/
theorem Kp.grow {p : Addr} {o : HO} (hp : H p = none) : Kp G U ads H (U ++ [p]) (ads ++ [p]) (upd H p o) where
  tup := (Kp.laid (G := G) (U := U) (ads := ads) hp).tup
  lst := fun a xs h n => by
    refine ⟨((Kp.laid (G := G) (U := U) (ads := ads) (o := o) hp).lst a xs h n).1, fun z => ?_⟩
    rcases List.mem_append.mp z with z | z
    · exact n z
    · rw [List.mem_singleton.mp z] at h
      rcases h with h | ⟨u, h⟩ <;> (rw [hp] at h; cases h)
  dct := fun a kvs h n => by
    refine ⟨((Kp.laid (G := G) (U := U) (ads := ads) (o := o) hp).dct a kvs h n).1, fun z => ?_⟩
    rcases List.mem_append.mp z with z | z
    · exact n z
    · rw [List.mem_singleton.mp z, hp] at h; cases h
  lab := fun l a h => by
    rw [List.getElem?_append_left (List.getElem?_eq_some_iff.mp h).1]
    exact h
theorem Stp.grow {p : Addr} {o : HO} {mo : MO} (m : MemOk G U ads H M) (hp : H p = none) (q : ObjD G (U ++ [p]) (ads ++ [p]) (upd H p o) mo p) : Stp G U ads H [p] (M ++ [mo]) (upd H p o) where
  new := fun a h => by rw [List.mem_singleton.mp h]; exact hp
  keep := fun a u h _ _ => (upd_ne (ne_of_none h hp)).trans h
  dom := fun a h => upd_dom a h
  mem := by
    have k : Kp G U ads H (U ++ [p]) (ads ++ [p]) (upd H p o) := Kp.grow hp
    refine ⟨by rw [List.length_append, List.length_append, m.len]; rfl, ?_, fun a ha => ?_, fun a ha => ?_, fun l mo' a h1 h2 => ?_⟩
    · rw [List.nodup_append]
      refine ⟨m.nd, by simp, fun a ha b hb => ?_⟩
      rw [List.mem_singleton.mp hb]
      exact m.ne hp ha
    · rcases List.mem_append.mp ha with z | z
      · exact List.mem_append_left _ (m.sub a z)
      · exact List.mem_append_right _ z
    · rcases List.mem_append.mp ha with z | z
      · exact upd_dom a (m.trk a z)
      · rw [List.mem_singleton.mp z, upd_same]; simp
    · by_cases hl : l < M.length
      · rw [List.getElem?_append_left hl] at h1
        rw [List.getElem?_append_left (by rw [m.len]; exact hl)] at h2
        have z := m.at_ l mo' a h1 h2
        have e : upd H p o a = H a := upd_ne (m.ne hp (List.mem_of_getElem? h2))
        cases mo' with
        | lst xs => obtain ⟨vs, q1, q2⟩ := z; exact ⟨vs, e.trans q1, q2.kp k⟩
        | ins c fs => obtain ⟨dx, gs, q1, q2⟩ := z; exact ⟨dx, gs, e.trans q1, Flds.kp k _ _ q2⟩
        | dct ks ds => obtain ⟨kvs, q1, q2⟩ := z; exact ⟨kvs, e.trans q1, q2.kp k⟩
      · have e : l = M.length := by
          have := (List.getElem?_eq_some_iff.mp h1).1
          rw [List.length_append] at this
          simp at this
          omega
        subst e
        rw [List.getElem?_append_right (Nat.le_refl _)] at h1
        rw [List.getElem?_append_right (by rw [m.len]; exact Nat.le_refl _), m.len] at h2
        simp at h1 h2
        subst h1
        subst h2
        exact q
/-- a fresh list, frozen or as a label -/
theorem Wk.mk {l : Bool} {ds : List D} {vs : List Vv} {Q : Vv → Hp → Prop} (h : Wk G (Den G) U ads H (mkL l ds M) Q E) (m : MemOk G U ads H M) (r : DenL G U ads H ds vs) {p : Addr} (hp : H p = none) : Q (.ref p) (upd H p (.lst vs)) := by
  cases l with
  | false => exact Wk.lst h m r hp
  | true =>
    refine h [p] _ _ (Stp.grow m hp ⟨vs, upd_same, r.kp (Kp.grow hp)⟩) ⟨p, rfl, ?_⟩
    rw [List.getElem?_append_right (by rw [m.len]; exact Nat.le_refl _), m.len]
    simp

/-- the slots -/
structure Rel (G : Gn) (U ads : List Addr) (H : Hp) (ρ : Env) (M : Mem) (σ : L2.St) : Prop where
  mem : MemOk G U ads H M
  len : ρ.length = σ.length
  at_ : ∀ (i : Nat) (d : D), ρ[i]? = some (some d) → ∃ v, σ[i]? = some (some v) ∧ Den G U ads H d v
theorem Rel.stp {ρ : Env} {σ : L2.St} (r : Rel G U ads H ρ M σ) (s : Stp G U ads H ext M' H') : Rel G (U ++ ext) (ads ++ ext) H' ρ M' σ :=
  ⟨s.mem, r.len, fun i d e => let ⟨v, a, b⟩ := r.at_ i d e; ⟨v, a, b.stp r.mem s⟩⟩
theorem Rel.set {ρ : Env} {σ : L2.St} {d : D} {v : Vv} (r : Rel G U ads H ρ M σ) (i : Nat) (h : Den G U ads H d v) : Rel G U ads H (ρ.set i (some d)) M (σ.set i (some v)) := by
  refine ⟨r.mem, by simpa using r.len, fun j e q => ?_⟩
  by_cases hj : i = j
  · subst hj
    by_cases hl : i < ρ.length
    · rw [List.getElem?_set_self hl] at q
      cases q
      exact ⟨v, List.getElem?_set_self (by rw [← r.len]; exact hl), h⟩
    · rw [List.getElem?_eq_none (by simpa using hl)] at q
      cases q
  · rw [List.getElem?_set_ne hj] at q
    rw [List.getElem?_set_ne hj]
    exact r.at_ j e q

/-- readings -/
def tE (G : Gn) (C : Cn) (W : WX) (e : Ex) : TE := fun σ H Q => ∃ U ads ρ M, Rel G U ads H ρ M σ ∧ Wk G (Den G) U ads H (evE C e ρ M) Q (WE W σ)
def tA (G : Gn) (C : Cn) (W : WX) (e : Ex) : TA := fun σ H Q => ∃ U ads ρ M, Rel G U ads H ρ M σ ∧ Wk G (DenL G) U ads H (evA C e ρ M) Q (WE W σ)
def tP (G : Gn) (C : Cn) (W : WX) (e : Ex) : TO := fun σ H Q => ∃ U ads ρ M, Rel G U ads H ρ M σ ∧ Wk G (fun _ _ _ a b => a = b) U ads H (evP C e ρ M) Q (WE W σ)
end

theorem _root_.L2.PE.imp {X : Cx} {e : Expr} {t t' : TE} (h : PE X e t) (k : ∀ σ H Q, t' σ H Q → t σ H Q) : PE X e t' := ⟨fun pins s σ H Q I q => h.run pins s σ H Q I (k σ H Q q)⟩
theorem _root_.L2.PT.imp {X : Cx} {e : Expr} {t t' : TT} (h : PT X e t) (k : ∀ σ H Q, t' σ H Q → t σ H Q) : PT X e t' := ⟨fun pins s σ H Q I q => h.run pins s σ H Q I (k σ H Q q)⟩
theorem _root_.L2.PW.imp {X : Cx} {e : Expr} {t t' : TT} (h : PW X e t) (k : ∀ σ H Q, t' σ H Q → t σ H Q) : PW X e t' := ⟨fun wh pins s σ H Q I q => h.run wh pins s σ H Q I (k σ H Q q)⟩
theorem _root_.L2.PA.imp {X : Cx} {e : List Expr} {t t' : TA} (h : PA X e t) (k : ∀ σ H Q, t' σ H Q → t σ H Q) : PA X e t' := ⟨fun pos pins s σ H Q I q => h.run pos pins s σ H Q I (k σ H Q q)⟩
theorem _root_.L2.PO.imp {X : Cx} {e : Option Expr} {t t' : TO} (h : PO X e t) (k : ∀ σ H Q, t' σ H Q → t σ H Q) : PO X e t' := ⟨fun pins s σ H Q I q => h.run pins s σ H Q I (k σ H Q q)⟩
theorem _root_.L2.PS.imp {X : Cx} {e : Stmt} {t t' : TS} (h : PS X e t) (k : ∀ D σ H, t' D σ H → t D σ H) : PS X e t' := ⟨fun pins s σ H D I q => h.run pins s σ H D I (k D σ H q)⟩
theorem _root_.L2.PSs.imp {X : Cx} {e : List Stmt} {t t' : TS} (h : PSs X e t) (k : ∀ D σ H, t' D σ H → t D σ H) : PSs X e t' := ⟨fun pins s σ H D I q => h.run pins s σ H D I (k D σ H q)⟩

section
variable {G : Gn} {C : Cn} {W : WX}
/-- two in a row -/
def rTwo (G : Gn) (f : D → D → Mem → Res D) : R2 := fun x y H Q => ∃ U ads M d e E, MemOk G U ads H M ∧ Den G U ads H d x ∧ Den G U ads H e y ∧ Wk G (Den G) U ads H (f d e M) Q E
theorem two_imp {a b : Ex} {f : D → D → Mem → Res D} {ie : Ex} (hev : ∀ ρ M, evE C ie ρ M = (evE C a ρ M).bind fun x M => (evE C b ρ M).bind fun y M => f x y M) :
    ∀ σ H Q, tE G C W ie σ H Q → tOp (rTwo G f) (tE G C W a) (tE G C W b) σ H Q := by
  rintro σ H Q ⟨U, ads, ρ, M, rel, h⟩
  rw [hev] at h
  refine ⟨U, ads, ρ, M, rel, (Wk.bind (R := Den G) h).mono fun x H1 ⟨ext, d, M1, _, st, dx, h2⟩ => ⟨_, _, ρ, M1, rel.stp st, (Wk.bind (R := Den G) h2).mono fun y H2 ⟨ext2, d2, M2, _, st2, dy, h3⟩ => ?_⟩⟩
  exact ⟨_, _, M2, d, d2, _, st2.mem, dx.stp (rel.stp st).mem st2, dy, h3⟩
def rOne (G : Gn) (f : D → Mem → Res D) : Vv → Hp → VK → Prop := fun x H Q => ∃ U ads M d E, MemOk G U ads H M ∧ Den G U ads H d x ∧ Wk G (Den G) U ads H (f d M) Q E
theorem one_imp {a : Ex} {f : D → Mem → Res D} {ie : Ex} (hev : ∀ ρ M, evE C ie ρ M = (evE C a ρ M).bind fun x M => f x M) :
    ∀ σ H Q, tE G C W ie σ H Q → tUn (rOne G f) (tE G C W a) σ H Q := by
  rintro σ H Q ⟨U, ads, ρ, M, rel, h⟩
  rw [hev] at h
  exact ⟨U, ads, ρ, M, rel, (Wk.bind (R := Den G) h).mono fun x H1 ⟨ext, d, M1, _, st, dx, h2⟩ => ⟨_, _, M1, d, _, st.mem, dx, h2⟩⟩
def rArg (G : Gn) (f : List D → Mem → Res D) : List Vv → Hp → VK → Prop := fun x H Q => ∃ U ads M d E, MemOk G U ads H M ∧ DenL G U ads H d x ∧ Wk G (Den G) U ads H (f d M) Q E
theorem arg_imp {a : Ex} {f : List D → Mem → Res D} {ie : Ex} (hev : ∀ ρ M, evE C ie ρ M = (evA C a ρ M).bind fun x M => f x M) :
    ∀ σ H Q, tE G C W ie σ H Q → tCB (rArg G f) (tA G C W a) σ H Q := by
  rintro σ H Q ⟨U, ads, ρ, M, rel, h⟩
  rw [hev] at h
  exact ⟨U, ads, ρ, M, rel, (Wk.bind (R := DenL G) h).mono fun x H1 ⟨ext, d, M1, _, st, dx, h2⟩ => ⟨_, _, M1, d, _, st.mem, dx, h2⟩⟩
end
end Cy
end

section
set_option Elab.async false
set_option linter.all false
set_option maxRecDepth 100000
set_option maxHeartbeats 4000000
/-! The operators. -/
namespace Cy
open PySem PySem.Spec PyProof.Rows L2

theorem top_eq : top = sizeLine := by rw [sizeLine_eq]; rfl
section
variable {G : Gn} {U ads : List Addr} {H : Hp} {M : Mem} {E : XK}
/-- what view shows -/
theorem view_lst {d : D} {x : Vv} {xs : List D} (m : MemOk G U ads H M) (h : Den G U ads H d x) (e : view M d = .lst xs) : ∃ a vs, x = .ref a ∧ SqL G.K H a vs ∧ DenL G U ads H xs vs := by
  cases d with
  | lst ys =>
    have e' : D.lst ys = D.lst xs := e
    cases e'
    obtain ⟨a, vs, e1, e2, e3⟩ := h
    exact ⟨a, vs, e1, KLs.sq e2, e3⟩
  | obj l =>
    obtain ⟨a, e1, e2⟩ := h
    unfold view at e
    simp only at e
    split at e
    · rename_i ys q
      cases e
      obtain ⟨vs, q1, q2⟩ := m.at_ l _ a q e2
      exact ⟨a, vs, e1, .inl (.inl q1), q2⟩
    · cases e
  | _ => cases e
theorem view_same {d : D} {x : Vv} (h : Den G U ads H d x) (hv : ∀ l, d ≠ .obj l) : view M d = d := by
  cases d with
  | obj l => exact absurd rfl (hv l)
  | _ => rfl
theorem view_eq {d e : D} (h : view M d = e) (ne : ∀ xs, e ≠ .lst xs) (no : ∀ l, e ≠ .obj l) : d = e := by
  cases d with
  | obj l =>
    unfold view at h
    simp only at h
    split at h
    · exact absurd h.symm (ne _)
    · exact absurd h.symm (no l)
  | _ => exact h
theorem view_tup {d : D} {x : Vv} {xs : List D} (h : Den G U ads H d x) (e : view M d = .tup xs) : ∃ a vs, x = .ref a ∧ SqT G.K H a vs ∧ DenL G U ads H xs vs := by
  have q := view_eq e (fun _ z => by cases z) (fun _ z => by cases z)
  subst q
  exact h
theorem view_str {d : D} {x : Vv} {s : List Nat} (h : Den G U ads H d x) (e : view M d = .str s) : x = .str (sg s) ∧ okS s := by
  have q := view_eq e (fun _ z => by cases z) (fun _ z => by cases z)
  subst q
  exact h
theorem view_int {d : D} {x : Vv} {i : Int} (h : Den G U ads H d x) (e : view M d = .int i) : x = .int i := by
  have q := view_eq e (fun _ z => by cases z) (fun _ z => by cases z)
  subst q
  exact h
end

/-! ### list + list -/
section
variable {X : Cx}
def rCatR (K : PySem.W.Frag) : R2 := fun x y H Q => ∃ l b xs zs, x = .ref l ∧ y = .ref b ∧ SqL K H l xs ∧ SqL K H b zs ∧ xs.length + zs.length ≤ sizeLine ∧ ∀ p, H p = none → Q (.ref p) (upd H p (.lst (xs ++ zs)))
theorem op_catR : OpR X (binaryOp .Add) (rCatR X.K) := by
  intro pins s σ H x y v u Q I rx ry h
  obtain ⟨l, b, xs, zs, rfl, rfl, hH, hB, hz, q⟩ := h
  cases rx
  cases ry
  obtain ⟨its, r, ⟨⟨c1, d1, t1, s1⟩, n, e, k1, k2, k3⟩, z⟩ := I.list hH
  obtain ⟨its2, r2, ⟨⟨c2, d2, t2, s2⟩, n2, e2, j1, j2, j3⟩, z2⟩ := I.list hB
  simp only at k1 k2 k3 j1 j2 j3
  subst k1 k2 k3 j1 j2 j3
  have hl := r.length
  have hl2 := r2.length
  have ea : its.toArray ++ its2.toArray = (its ++ its2).toArray := by simp
  refine concat_meets ⟨_, e, rfl⟩ ⟨_, e2, rfl⟩ noFill_list_add seq_list_add PySem.F.slot_list_add PySem.F.entry_list_add (PySem.F.args_list_add_2 _ _)
    (list_addW l b its.toArray its2.toArray n n2 none none s1 s2 (by rw [List.size_toArray, List.size_toArray]; omega)) ⟨e, e2, ?_⟩
  rw [ea]
  exact ⟨.ref _, _, I.lnew (t' := s.toks) (r.append r2) (by rw [List.length_append]; omega), rfl, q _ I.fresh⟩
theorem rep_eq {α : Type} (n : Nat) (s : List α) : rep n s = (List.replicate n s).flatten := by
  induction n with
  | zero => rfl
  | succ n ih => rw [List.replicate_succ, List.flatten_cons, ← ih]; rfl
theorem rep_len {α : Type} (n : Nat) (s : List α) : (rep n s).length = n * s.length := by
  induction n with
  | zero => simp [rep]
  | succ n ih => rw [rep, List.length_append, ih, Nat.succ_mul]; omega
theorem rep_mem {α : Type} {n : Nat} {s : List α} {c : α} (h : c ∈ rep n s) : c ∈ s := by
  induction n with
  | zero => cases h
  | succ n ih =>
    rw [rep] at h
    rcases List.mem_append.mp h with z | z
    · exact z
    · exact ih z
theorem foldl_app (s : Array Nat) (l : List Nat) (e : s = l.toArray) : ∀ (n : Nat) (a : List Nat), (List.replicate n s).foldl (· ++ ·) a.toArray = (a ++ rep n l).toArray
  | 0, a => by simp [rep]
  | n + 1, a => by
    rw [List.replicate_succ, List.foldl_cons, e]
    have q := foldl_app l.toArray l rfl n (a ++ l)
    have h : a.toArray ++ l.toArray = (a ++ l).toArray := by simp
    rw [h, q, rep]
    simp
theorem txt_mul (s : List Nat) (n : Nat) : Txt.mul (sg s) (n : Int) = sg (rep n s) := by
  unfold Txt.mul
  by_cases h : (n : Int) < 1
  · rw [if_pos h]
    have e : n = 0 := by omega
    subst e
    rfl
  · rw [if_neg h]
    by_cases h2 : ((n : Int) == 1 || (sg s).length == 0) = true
    · rw [if_pos h2]
      rw [Bool.or_eq_true] at h2
      rcases h2 with h2 | h2
      · have e : n = 1 := by have := eq_of_beq h2; omega
        subst e
        simp [rep]
      · have e := eq_of_beq h2
        rw [sg_len] at e
        have e2 := List.eq_nil_of_length_eq_zero e
        subst e2
        have e3 : rep n ([] : List Nat) = [] := List.eq_nil_of_length_eq_zero (by rw [rep_len]; simp)
        rw [e3]
    · rw [if_neg h2]
      have q := foldl_app (sg s).cps s rfl n []
      have h0 : (#[] : Array Nat) = ([] : List Nat).toArray := rfl
      unfold sg
      congr 1
def rMulS : R2 := fun x y H Q => ∃ (s : List Nat) (n : Nat), x = .str (sg s) ∧ y = .int (n : Int) ∧ n ≤ 1000 ∧ s.length ≤ 1000 ∧ Q (.str (sg (rep n s))) H
theorem op_mulS : OpR X (binaryOp .Mult) rMulS := by
  intro pins s σ H x y v u Q I rx ry h
  obtain ⟨z, n, rfl, rfl, h1, h2, q⟩ := h
  obtain ⟨t, rfl⟩ := rx
  obtain ⟨t', rfl⟩ := ry
  refine PySem.SB.mul ⟨?_, ?_, ?_⟩ fun t2 k => ?_
  · have a1 : decide ((n : Int) < -(2 ^ 63 : Int)) = false := decide_eq_false (by omega)
    have a2 : decide ((n : Int) ≥ 2 ^ 63) = false := decide_eq_false (by omega)
    rw [a1, a2]; rfl
  · intro h3 _ h4
    rw [sg_len] at h4
    have h5 : (0 : Int) < n := by omega
    have h6 : ((2 : Int) ^ 63 - 1) / (n : Int) ≥ ((2 : Int) ^ 63 - 1) / 1000 := by
      have h7 : (n : Int) ≤ 1000 := by omega
      have h8 : ((2 : Int) ^ 63 - 1) / 1000 * (n : Int) ≤ (2 : Int) ^ 63 - 1 := by
        have h9 : ((2 : Int) ^ 63 - 1) / 1000 * (n : Int) ≤ ((2 : Int) ^ 63 - 1) / 1000 * 1000 := Int.mul_le_mul_of_nonneg_left h7 (by decide)
        have h10 : ((2 : Int) ^ 63 - 1) / 1000 * 1000 ≤ (2 : Int) ^ 63 - 1 := by decide
        omega
      exact (Int.le_ediv_iff_mul_le h5).mpr h8
    have h11 : ((2 : Int) ^ 63 - 1) / 1000 > 1000 := by decide
    omega
  · intro _ _
    rw [sg_len]
    have h3 : z.length * ((n : Int)).toNat ≤ 1000 * 1000 := Nat.mul_le_mul h2 (by omega)
    show decide (_ > sizeLine) = false
    rw [sizeLine_eq]
    exact decide_eq_false (by omega)
  · rw [txt_mul]
    exact ⟨.str _, H, I.tok _, ⟨_, rfl⟩, q⟩
end

def opOf : BOp → Operator
  | .add => .Add
  | .addL => .Add
  | .sub => .Sub
  | .mul => .Mult
  | .fdiv => .FloorDiv
  | .mod => .Mod
  | .pow => .Pow
theorem okS_app {s t : List Nat} (a : okS s) (b : okS t) (h : s.length + t.length ≤ sizeLine) : okS (s ++ t) :=
  ⟨by rw [List.length_append]; exact h, fun c hc => (List.mem_append.mp hc).elim (a.2 c) (b.2 c)⟩
theorem opB {X : Cx} {G : Gn} (hK : G.K = X.K) (o : BOp) : OpR X (binaryOp (opOf o)) (rTwo G (bop o)) := by
  intro pins s σ H x y v u Q I rx ry h
  obtain ⟨U, ads, M, d, e, E, m, hd, he, h⟩ := h
  unfold bop at h
  cases hvd : view M d with
  | int i =>
    have ex := view_int hd hvd
    rw [hvd] at h
    cases hve : view M e with
    | int j =>
      have ey := view_int he hve
      rw [hve] at h
      cases o with
      | add => exact op_add pins s σ H x y v u Q I rx ry ⟨i, j, ex, ey, Wk.now h m rfl⟩
      | addL => exact h.elim
      | sub => exact op_sub pins s σ H x y v u Q I rx ry ⟨i, j, ex, ey, Wk.now h m rfl⟩
      | mul =>
        simp only [bopV] at h
        split at h
        · rename_i hw
          rw [Bool.and_eq_true] at hw
          refine op_mulW pins s σ H x y v u Q I rx ry ⟨i, j, ex, ey, ?_, Wk.now h m rfl⟩
          have h1 := Nat.le_of_ble_eq_true hw.1
          have h2 := Nat.le_of_ble_eq_true hw.2
          unfold CMulW
          omega
        · exact h.elim
      | fdiv =>
        simp only [bopV] at h
        split at h
        · rename_i hw
          rw [Bool.and_eq_true] at hw
          exact op_fdivW pins s σ H x y v u Q I rx ry ⟨i, j, ex, ey, ⟨of_decide_eq_true hw.1, Nat.le_of_ble_eq_true hw.2⟩, Wk.now h m rfl⟩
        · exact h.elim
      | mod =>
        simp only [bopV] at h
        split at h
        · rename_i hw
          exact op_mod pins s σ H x y v u Q I rx ry ⟨i, j, ex, ey, hw, Wk.now h m rfl⟩
        · exact h.elim
      | pow =>
        simp only [bopV] at h
        split at h
        · rename_i hw
          rw [Bool.and_eq_true, Bool.and_eq_true] at hw
          have h1 := of_decide_eq_true hw.1.1
          have h2 := of_decide_eq_true hw.1.2
          have h3 := of_decide_eq_true hw.2
          exact op_pow pins s σ H x y v u Q I rx ry ⟨i, j, ex, ey, ⟨h1, by omega, by omega⟩, Wk.now h m rfl⟩
        · exact h.elim
    | _ => rw [hve] at h; cases o <;> exact h.elim
  | str z =>
    obtain ⟨ex, kx⟩ := view_str hd hvd
    rw [hvd] at h
    cases hve : view M e with
    | str w =>
      obtain ⟨ey, ky⟩ := view_str he hve
      rw [hve] at h
      cases o with
      | add =>
        simp only [bopV] at h
        split at h
        · rename_i hw
          have hw := Nat.le_of_ble_eq_true hw
          rw [top_eq] at hw
          refine op_add_str pins s σ H x y v u Q I rx ry ⟨sg z, sg w, ex, ey, by rw [sg_len, sg_len]; exact hw, ?_⟩
          rw [sg_app]
          exact Wk.now h m ⟨rfl, okS_app kx ky hw⟩
        · exact h.elim
      | _ => exact h.elim
    | int j =>
      have ey := view_int he hve
      rw [hve] at h
      cases o with
      | mul =>
        simp only [bopV] at h
        split at h
        · rename_i hw
          rw [Bool.and_eq_true, Bool.and_eq_true] at hw
          have h1 := of_decide_eq_true hw.1.1
          have h2 := of_decide_eq_true hw.1.2
          have h3 := Nat.le_of_ble_eq_true hw.2
          refine op_mulS pins s σ H x y v u Q I rx ry ⟨z, j.toNat, ex, by rw [ey, Int.toNat_of_nonneg h1], by omega, h3, Wk.now h m ⟨rfl, ?_, fun c hc => kx.2 c (rep_mem hc)⟩⟩
          rw [rep_len, sizeLine_eq]
          have := Nat.mul_le_mul (show j.toNat ≤ 1000 by omega) h3
          omega
        · exact h.elim
      | _ => exact h.elim
    | _ => rw [hve] at h; cases o <;> exact h.elim
  | lst xs =>
    obtain ⟨a, vs, ex, ra, dx⟩ := view_lst m hd hvd
    rw [hvd] at h
    cases hve : view M e with
    | lst ys =>
      obtain ⟨b, ws, ey, rb, dy⟩ := view_lst m he hve
      rw [hve] at h
      cases o with
      | add =>
        simp only [bopV] at h
        split at h
        · rename_i hw
          have hw := Nat.le_of_ble_eq_true hw
          rw [top_eq, dx.length, dy.length] at hw
          exact op_catR pins s σ H x y v u Q I rx ry ⟨a, b, vs, ws, ex, ey, by rw [← hK]; exact ra, by rw [← hK]; exact rb, hw, fun p hp => Wk.lst h m (dx.app dy) hp⟩
        · exact h.elim
      | addL =>
        simp only [bopV] at h
        split at h
        · rename_i hw
          have hw := Nat.le_of_ble_eq_true hw
          rw [top_eq, dx.length, dy.length] at hw
          exact op_catR pins s σ H x y v u Q I rx ry ⟨a, b, vs, ws, ex, ey, by rw [← hK]; exact ra, by rw [← hK]; exact rb, hw, fun p hp => Wk.mk h m (dx.app dy) hp⟩
        · exact h.elim
      | _ => exact h.elim
    | _ => rw [hve] at h; cases o <;> exact h.elim
  | tup xs =>
    obtain ⟨a, vs, ex, ra, dx⟩ := view_tup hd hvd
    rw [hvd] at h
    cases hve : view M e with
    | tup ys =>
      obtain ⟨b, ws, ey, rb, dy⟩ := view_tup he hve
      rw [hve] at h
      cases o with
      | add =>
        simp only [bopV] at h
        split at h
        · rename_i hw
          have hw2 := Nat.le_of_ble_eq_true hw
          rw [top_eq, dx.length, dy.length] at hw2
          have nil_of : ∀ {ds : List D} {ws : List Vv}, DenL G U ads H ds ws → ws = [] → ds = [] := fun {ds ws} k z => by
            have := k.length
            rw [z] at this
            exact List.eq_nil_of_length_eq_zero this
          refine op_catA pins s σ H x y v u Q I rx ry ⟨a, b, vs, ws, ex, ey, by rw [← hK]; exact ra, by rw [← hK]; exact rb, hw2, fun z => ?_, fun _ z => ?_, fun _ _ p hp => Wk.tup h m (dx.app dy) hp⟩
          · have e0 := nil_of dx z
            subst e0
            exact Wk.now h m ⟨b, ws, rfl, rb, dy⟩
          · have e0 := nil_of dy z
            subst e0
            rw [List.append_nil] at h
            exact Wk.now h m ⟨a, vs, rfl, ra, dx⟩
        · exact h.elim
      | _ => exact h.elim
    | _ => rw [hve] at h; cases o <;> exact h.elim
  | _ => rw [hvd] at h; cases o <;> exact h.elim
end Cy
end

section
set_option Elab.async false
set_option linter.all false
set_option maxRecDepth 100000
set_option maxHeartbeats 4000000
/-! Comparisons, subscripts. -/
namespace Cy
open PySem PySem.Spec PyProof.Rows L2

mutual
def pd : D → PyData
  | .non => .none
  | .bl b => .bool b
  | .int i => .int i
  | .str s => .str (sg s)
  | .tup xs => .tuple (pdL xs)
  | .lst xs => .list (pdL xs)
  | .dct _ _ => .none
  | .obj _ => .none
def pdL : List D → List PyData
  | [] => []
  | x :: xs => pd x :: pdL xs
end
section
variable {G : Gn} {U ads : List Addr} {H : Hp} {M : Mem}
mutual
theorem Den.dp : ∀ (d : D) (n : Nat) (v : Vv), D.dat n d = true → Den G U ads H d v → Dp G.K H v (pd d)
  | .non, _, v, _, h => by cases (show v = .non from h); exact .non
  | .bl b, _, v, _, h => by cases (show v = .bl b from h); exact .bl b
  | .int b, _, v, _, h => by cases (show v = .int b from h); exact .int b
  | .str b, _, v, _, h => by
    have e : v = .str (sg b) := h.1
    rw [e]
    exact .str (sg b)
  | .tup xs, 0, v, hd, h => by simp [D.dat] at hd
  | .tup xs, n + 1, v, hd, h => by
    obtain ⟨a, vs, e, q, r⟩ := h
    rw [e]
    exact .tup q (DenL.dp xs n vs (by simpa [D.dat] using hd) r)
  | .lst xs, 0, v, hd, h => by simp [D.dat] at hd
  | .lst xs, n + 1, v, hd, h => by
    obtain ⟨a, vs, e, q, r⟩ := h
    rw [e]
    exact .lst (KLs.sq q) (DenL.dp xs n vs (by simpa [D.dat] using hd) r)
  | .dct _ _, 0, _, hd, _ => by simp [D.dat] at hd
  | .dct _ _, _ + 1, _, hd, _ => by simp [D.dat] at hd
  | .obj _, 0, _, hd, _ => by simp [D.dat] at hd
  | .obj _, _ + 1, _, hd, _ => by simp [D.dat] at hd
theorem DenL.dp : ∀ (ds : List D) (n : Nat) (vs : List Vv), D.datL n ds = true → DenL G U ads H ds vs → DpAll G.K H vs (pdL ds)
  | [], _, vs, _, h => by cases (show vs = [] from h); exact .nil
  | d :: ds, n, vs, hd, h => by
    obtain ⟨v, r, e, h1, h2⟩ := h
    rw [e]
    simp only [D.datL, Bool.and_eq_true] at hd
    exact .cons (Den.dp d n v hd.1 h1) (DenL.dp ds n r hd.2 h2)
end
mutual
theorem Den.lay : ∀ (d : D) (n : Nat) (v : Vv), D.dat n d = true → Den G U ads H d v → (pd d).canLay0 = true ∧ (pd d).depth ≤ n
  | .non, _, v, _, h => ⟨rfl, by simp [pd, PyData.depth]⟩
  | .bl b, _, v, _, h => ⟨rfl, by simp [pd, PyData.depth]⟩
  | .int b, _, v, _, h => ⟨rfl, by simp [pd, PyData.depth]⟩
  | .str b, _, v, _, h => by
    refine ⟨?_, by simp [pd, PyData.depth]⟩
    have k := h.2.2
    simp only [pd, PyData.canLay0, PyData.strOk, sg]
    rw [Array.all_eq_true']
    intro c hc
    have := k c (by simpa using hc)
    exact decide_eq_true this
  | .tup xs, 0, v, hd, h => by simp [D.dat] at hd
  | .tup xs, n + 1, v, hd, h => by
    obtain ⟨a, vs, e, q, r⟩ := h
    obtain ⟨h1, h2⟩ := DenL.lay xs n vs (by simpa [D.dat] using hd) r
    exact ⟨by simp only [pd, PyData.canLay0]; exact h1, by simp only [pd, PyData.depth]; omega⟩
  | .lst xs, 0, v, hd, h => by simp [D.dat] at hd
  | .lst xs, n + 1, v, hd, h => by
    obtain ⟨a, vs, e, q, r⟩ := h
    obtain ⟨h1, h2⟩ := DenL.lay xs n vs (by simpa [D.dat] using hd) r
    exact ⟨by simp only [pd, PyData.canLay0]; exact h1, by simp only [pd, PyData.depth]; omega⟩
  | .dct _ _, 0, _, hd, _ => by simp [D.dat] at hd
  | .dct _ _, _ + 1, _, hd, _ => by simp [D.dat] at hd
  | .obj _, 0, _, hd, _ => by simp [D.dat] at hd
  | .obj _, _ + 1, _, hd, _ => by simp [D.dat] at hd
theorem DenL.lay : ∀ (ds : List D) (n : Nat) (vs : List Vv), D.datL n ds = true → DenL G U ads H ds vs → PyData.canLayAll0 (pdL ds) = true ∧ PyData.depthAll (pdL ds) ≤ n
  | [], _, vs, _, h => ⟨rfl, by simp [pdL, PyData.depthAll]⟩
  | d :: ds, n, vs, hd, h => by
    obtain ⟨v, r, e, h1, h2⟩ := h
    simp only [D.datL, Bool.and_eq_true] at hd
    obtain ⟨a1, a2⟩ := Den.lay d n v hd.1 h1
    obtain ⟨b1, b2⟩ := DenL.lay ds n r hd.2 h2
    refine ⟨by simp only [pdL, PyData.canLayAll0, a1, b1]; rfl, by simp only [pdL, PyData.depthAll]; omega⟩
end
end
theorem sg_beq (s t : List Nat) : (sg s == sg t) = (s == t) := by
  rw [Bool.eq_iff_iff, beq_iff_eq, beq_iff_eq]
  exact ⟨sg_inj, fun h => by rw [h]⟩
mutual
theorem pd_eqv : ∀ (d e : D) (n m : Nat), D.dat n d = true → D.dat m e = true → PyData.eqv (pd d) (pd e) = D.eqv d e
  | .non, e, _, m, _, h => by cases e <;> simp [pd, PyData.eqv, D.eqv] <;> (cases m <;> simp [D.dat] at h)
  | .bl b, e, _, m, _, h => by cases e <;> simp [pd, PyData.eqv, D.eqv] <;> (cases m <;> simp [D.dat] at h)
  | .int b, e, _, m, _, h => by cases e <;> simp [pd, PyData.eqv, D.eqv] <;> (cases m <;> simp [D.dat] at h)
  | .str b, e, _, m, _, h => by cases e <;> simp [pd, PyData.eqv, D.eqv, sg_beq] <;> (cases m <;> simp [D.dat] at h)
  | .tup xs, e, n, m, h1, h => by
    cases n with
    | zero => simp [D.dat] at h1
    | succ n =>
      cases e with
      | tup ys =>
        cases m with
        | zero => simp [D.dat] at h
        | succ m =>
          simp only [pd, PyData.eqv, D.eqv]
          exact pd_eqvL xs ys n m (by simpa [D.dat] using h1) (by simpa [D.dat] using h)
      | _ => simp [pd, PyData.eqv, D.eqv]
  | .lst xs, e, n, m, h1, h => by
    cases n with
    | zero => simp [D.dat] at h1
    | succ n =>
      cases e with
      | lst ys =>
        cases m with
        | zero => simp [D.dat] at h
        | succ m =>
          simp only [pd, PyData.eqv, D.eqv]
          exact pd_eqvL xs ys n m (by simpa [D.dat] using h1) (by simpa [D.dat] using h)
      | _ => simp [pd, PyData.eqv, D.eqv]
  | .dct _ _, _, n, _, h, _ => by cases n <;> simp [D.dat] at h
  | .obj _, _, n, _, h, _ => by cases n <;> simp [D.dat] at h
theorem pd_eqvL : ∀ (d e : List D) (n m : Nat), D.datL n d = true → D.datL m e = true → PyData.eqvAll (pdL d) (pdL e) = D.eqvL d e
  | [], [], _, _, _, _ => rfl
  | [], _ :: _, _, _, _, _ => rfl
  | _ :: _, [], _, _, _, _ => rfl
  | x :: xs, y :: ys, n, m, h1, h2 => by
    simp only [D.datL, Bool.and_eq_true] at h1 h2
    simp only [pdL, PyData.eqvAll, D.eqvL]
    rw [pd_eqv x y n m h1.1 h2.1, pd_eqvL xs ys n m h1.2 h2.2]
end
theorem shaped_of {d : PyData} (h1 : d.canLay0 = true) (h2 : d.depth ≤ 60) : SeqAt.shaped d = true := by
  unfold SeqAt.shaped
  rw [h1, decide_eq_true (by omega)]
  rfl
/-- what is seen is data -/
theorem view_dp {G : Gn} {U ads : List Addr} {H : Hp} {M : Mem} {d : D} {x : Vv} (m : MemOk G U ads H M) (h : Den G U ads H d x) (e : D.dat 60 (view M d) = true) : Dp G.K H x (pd (view M d)) ∧ SeqAt.shaped (pd (view M d)) = true := by
  cases hv : view M d with
  | lst xs =>
    obtain ⟨a, vs, e1, e2, e3⟩ := view_lst m h hv
    rw [hv] at e
    have e4 : D.datL 59 xs = true := by simpa [D.dat] using e
    obtain ⟨b1, b2⟩ := DenL.lay xs 59 vs e4 e3
    rw [e1]
    refine ⟨.lst e2 (DenL.dp xs 59 vs e4 e3), shaped_of (by simp only [pd, PyData.canLay0]; exact b1) (by simp only [pd, PyData.depth]; omega)⟩
  | obj l => rw [hv] at e; cases e
  | dct k v => rw [hv] at e; cases e
  | _ =>
    have q := view_eq hv (fun _ z => by cases z) (fun _ z => by cases z)
    subst q
    rw [hv] at e
    obtain ⟨b1, b2⟩ := Den.lay _ 60 x e h
    exact ⟨Den.dp _ 60 x e h, shaped_of b1 b2⟩

def copOf : COp → CmpOp
  | .eq => .Eq
  | .ne => .NotEq
  | .lt => .Lt
  | .le => .LtE
  | .gt => .Gt
  | .ge => .GtE
  | .is => .Is
  | .isn => .IsNot
  | .inn => .In
  | .nin => .NotIn
def copR (o : COp) (x y : D) (M : Mem) : Res D := match cop o x y M with
  | some k => .ok (.bl k) M
  | none => .bad
section
variable {G : Gn} {U ads : List Addr} {H : Hp} {M : Mem}
theorem flat_of {d : D} {x : Vv} (h : Den G U ads H d x) (f : d.flat = true) : flatV x = true := by
  cases d with
  | non => cases (show x = .non from h); rfl
  | bl b => cases (show x = .bl b from h); rfl
  | int b => cases (show x = .int b from h); rfl
  | str b => rw [h.1]; rfl
  | _ => cases f
theorem flatL_of : ∀ {ds : List D} {vs : List Vv}, DenL G U ads H ds vs → ds.all D.flat = true → vs.all flatV = true
  | [], vs, h, _ => by cases (show vs = [] from h); rfl
  | d :: ds, vs, h, f => by
    obtain ⟨v, r, e, h1, h2⟩ := h
    rw [List.all_cons, Bool.and_eq_true] at f
    rw [e, List.all_cons, flat_of h1 f.1, flatL_of h2 f.2]
    rfl
theorem eqV_of {d e : D} {x y : Vv} (h : Den G U ads H d x) (k : Den G U ads H e y) (f : d.flat = true) (g : e.flat = true) : eqV x y = D.eqv d e := by
  cases d with
  | non => cases (show x = .non from h); cases e with
    | non => cases (show y = .non from k); rfl
    | bl b => cases (show y = .bl b from k); rfl
    | int b => cases (show y = .int b from k); rfl
    | str b => rw [k.1]; rfl
    | _ => cases g
  | bl b => cases (show x = .bl b from h); cases e with
    | non => cases (show y = .non from k); rfl
    | bl b => cases (show y = .bl b from k); rfl
    | int b => cases (show y = .int b from k); rfl
    | str b => rw [k.1]; rfl
    | _ => cases g
  | int b => cases (show x = .int b from h); cases e with
    | non => cases (show y = .non from k); rfl
    | bl b => cases (show y = .bl b from k); rfl
    | int b => cases (show y = .int b from k); rfl
    | str b => rw [k.1]; rfl
    | _ => cases g
  | str b => rw [h.1]; cases e with
    | non => cases (show y = .non from k); rfl
    | bl b => cases (show y = .bl b from k); rfl
    | int b => cases (show y = .int b from k); rfl
    | str c => rw [k.1]; exact sg_beq b c
    | _ => cases g
  | _ => cases f
theorem inV_of {d : D} {x : Vv} (h : Den G U ads H d x) (f : d.flat = true) : ∀ {ds : List D} {vs : List Vv}, DenL G U ads H ds vs → ds.all D.flat = true → inV x vs = ds.any fun y => D.eqv y d
  | [], vs, k, _ => by cases (show vs = [] from k); rfl
  | e :: ds, vs, k, g => by
    obtain ⟨v, r, q, h1, h2⟩ := k
    rw [List.all_cons, Bool.and_eq_true] at g
    rw [q]
    have z := inV_of h f h2 g.2
    unfold inV at z ⊢
    rw [List.any_cons, List.any_cons, eqV_of h1 h g.1 f, z]
theorem any_pd {d : D} (f : D.dat 60 d = true) : ∀ {ds : List D}, D.datL 60 ds = true → (pdL ds).any (fun z => PyData.eqv z (pd d)) = ds.any fun y => D.eqv y d
  | [], _ => rfl
  | e :: ds, g => by
    simp only [D.datL, Bool.and_eq_true] at g
    simp only [pdL, List.any_cons]
    rw [pd_eqv e d 60 60 g.1 f, any_pd f g.2]
theorem view_dct {d : D} {x : Vv} {ks : List (List Nat)} {vs : List D} (h : Den G U ads H d x) (e : view M d = .dct ks vs) : ∃ a kvs, x = .ref a ∧ (H a = some (.dK kvs) ∨ KDk G a kvs) ∧ DenD G U ads H ks vs kvs := by
  have q := view_eq e (fun _ z => by cases z) (fun _ z => by cases z)
  subst q
  obtain ⟨a, kvs, h1, h2, h3⟩ := h
  exact ⟨a, kvs, h1, h2.imp And.left id, h3⟩
theorem valV_cons {k k' : Key} {v : Vv} {r : List (Key × Vv)} : valV ((k, v) :: r) k' = if k = k' then some v else valV r k' := by
  unfold valV
  rw [List.find?_cons]
  by_cases e : k = k'
  · rw [if_pos e]; simp [e]
  · rw [if_neg e]; simp [e]
theorem find_of (k : List Nat) : ∀ {ks : List (List Nat)} {ds : List D} {kvs : List (Key × Vv)}, DenD G U ads H ks ds kvs →
    ((find k ks ds = none → ks.contains k = false ∧ valV kvs (Sum.inr (sg k)) = none) ∧ (∀ d, find k ks ds = some d → ks.contains k = true ∧ ∃ v, valV kvs (Sum.inr (sg k)) = some v ∧ Den G U ads H d v))
  | ks, [], kvs, h => by
    obtain ⟨e1, e2⟩ := h
    subst e1; subst e2
    exact ⟨fun _ => ⟨rfl, rfl⟩, fun d z => by cases z⟩
  | ks, d :: ds, kvs, h => by
    obtain ⟨c, kr, v, r, e1, e2, h0, h1, h2⟩ := h
    subst e1; subst e2
    have ih := find_of k h2
    rw [valV_cons]
    simp only [find]
    by_cases hc : c = k
    · subst hc
      simp only [beq_self_eq_true, if_true]
      exact ⟨fun z => (by cases z), fun d' z => (by cases z; exact ⟨by simp, v, rfl, h1⟩)⟩
    · have hb : (c == k) = false := by simpa using hc
      have hn : ¬ ((Sum.inr (sg c) : Key) = Sum.inr (sg k)) := fun z => hc (sg_inj (Sum.inr.inj z))
      rw [hb, if_neg hn]
      simp only [Bool.false_eq_true, if_false]
      refine ⟨fun z => ⟨?_, (ih.1 z).2⟩, fun d' z => ⟨?_, (ih.2 d' z).2⟩⟩
      · have q := (ih.1 z).1
        rw [List.contains_cons, q]
        have : (k == c) = false := by simpa using fun e : k = c => hc e.symm
        rw [this]; rfl
      · have q := (ih.2 d' z).1
        rw [List.contains_cons, q]; simp
theorem isIn_cases {X : Cx} {neg : Bool} {d e : D} {x y : Vv} {k : Bool} (hK : G.K = X.K) (hW : G.w = X.w) (hu : X.A.units + 65 < cLine) (m : MemOk G U ads H M) (hd : Den G U ads H d x) (he : Den G U ads H e y) (hk : isIn d (view M e) = some k)
    {pins : List (Addr × Obj)} {s : Shared} {σ : L2.St} {v u : Value} {Q : VK} (I : Inv X pins σ H s) (rx : RelV x v) (ry : RelV y u) (q : Q (.bl (if neg then !k else k)) H) :
    wpAny (model X.prog X.w) X.A (compareOp (if neg then .NotIn else .In) v u) (EP X pins σ Q) X.xe s := by
  cases hv : view M e with
  | str z =>
    rw [hv] at hk
    obtain ⟨ey, _⟩ := view_str he hv
    cases d with
    | str w =>
      cases w with
      | nil => cases hk
      | cons c r =>
        cases r with
        | cons _ _ => cases hk
        | nil =>
          have e0 : z.contains c = k := Option.some.inj hk
          have e1 : decide (c ∈ (sg z).cps.toList) = k := by
            rw [sg_list, ← e0, List.contains_eq_mem]
          cases neg with
          | false => exact op_in_sign pins s σ H x y v u Q I rx ry ⟨c, sg z, hd.1, ey, by rw [e1]; exact q⟩
          | true => exact op_notIn_sign pins s σ H x y v u Q I rx ry ⟨c, sg z, hd.1, ey, by rw [e1]; exact q⟩
    | _ => cases hk
  | tup xs =>
    rw [hv] at hk
    obtain ⟨a, vs, ey, r, dl⟩ := view_tup he hv
    have hk2 : (if d.flat && xs.all D.flat then some (xs.any fun x => D.eqv x d) else none) = some k := by
      cases d <;> first | exact hk | (rename_i w; cases w with
        | nil => exact hk
        | cons c r => cases r <;> exact hk)
    split at hk2
    · rename_i f
      rw [Bool.and_eq_true] at f
      have e0 := Option.some.inj hk2
      have z := inV_of hd f.1 dl f.2
      cases neg with
      | false => exact op_in_seq pins s σ H x y v u Q I rx ry ⟨a, vs, ey, .inr (by rw [← hK]; exact r), flat_of hd f.1, flatL_of dl f.2, by rw [if_neg Bool.false_ne_true, z, e0]; exact q⟩
      | true => exact op_notIn_seq pins s σ H x y v u Q I rx ry ⟨a, vs, ey, .inr (by rw [← hK]; exact r), flat_of hd f.1, flatL_of dl f.2, by rw [if_pos rfl, z, e0]; exact q⟩
    · cases hk2
  | lst xs =>
    rw [hv] at hk
    obtain ⟨a, vs, ey, r, dl⟩ := view_lst m he hv
    have hk2 : (if D.dat 60 d && D.datL 60 xs then some (xs.any fun x => D.eqv x d) else none) = some k := by
      cases d <;> first | exact hk | (rename_i w; cases w with
        | nil => exact hk
        | cons c r => cases r <;> exact hk)
    split at hk2
    · rename_i f
      rw [Bool.and_eq_true] at f
      have e0 := Option.some.inj hk2
      have z := any_pd f.1 f.2
      obtain ⟨b1, b2⟩ := Den.lay d 60 x f.1 hd
      obtain ⟨c1, c2⟩ := DenL.lay xs 60 vs f.2 dl
      have s2 : SeqAt.shaped (.list (pdL xs)) = true := by
        unfold SeqAt.shaped
        rw [show PyData.canLay0 (.list (pdL xs)) = true from c1, decide_eq_true (by simp only [PyData.depth]; omega)]
        rfl
      have dp1 : Dp X.K H x (pd d) := by rw [← hK]; exact Den.dp d 60 x f.1 hd
      have dp2 : Dp X.K H y (.list (pdL xs)) := by rw [← hK, ey]; exact .lst r (DenL.dp xs 60 vs f.2 dl)
      cases neg with
      | false => exact op_inD hu pins s σ H x y v u Q I rx ry ⟨pd d, pdL xs, dp1, dp2, shaped_of b1 b2, s2, by rw [z, e0]; exact q⟩
      | true => exact op_notInD hu pins s σ H x y v u Q I rx ry ⟨pd d, pdL xs, dp1, dp2, shaped_of b1 b2, s2, by rw [z, e0]; exact q⟩
    · cases hk2
  | dct ks ds =>
    obtain ⟨a, kvs, ey, ha, dd⟩ := view_dct he hv
    rw [hv] at hk
    cases d with
    | str w =>
      have e0 : ks.contains w = k := by
        cases w with
        | nil => exact Option.some.inj hk
        | cons c r => cases r <;> exact Option.some.inj hk
      have e1 : (valV kvs (Sum.inr (sg w))).isSome = k := by
        have z := find_of w dd
        cases hf : find w ks ds with
        | none => rw [(z.1 hf).2, ← e0, (z.1 hf).1]; rfl
        | some d' =>
          obtain ⟨z1, v', z2, _⟩ := z.2 d' hf
          rw [z2, ← e0, z1]; rfl
      rcases ha with ha | ⟨⟨es, n, kd⟩, hz⟩
      · subst ey
        cases (show u = Value.ref a from ry)
        have hg : DGet H a x (valV kvs (Sum.inr (sg w))) := by
          rw [show x = kV (Sum.inr (sg w)) from hd.1]
          exact DGet.k ha
        cases neg with
        | false => exact d_in (by omega) I hg rx fun s' I' => ⟨.bl _, H, I', rfl, by rw [e1]; exact q⟩
        | true => exact d_notIn (by omega) I hg rx fun s' I' => ⟨.bl _, H, I', rfl, by rw [e1]; exact q⟩
      · rw [hK, hW] at kd
        obtain ⟨h1, h2⟩ := hz (sg w)
        have h3 : ∃ r : Option Value, PySem.W.nsIn X.K a (sg w) = some r ∧ r.isSome = k := by
          rw [← hK]
          cases hv : valV kvs (Sum.inr (sg w)) with
          | none => exact ⟨none, h1 hv, by rw [← e1, hv]; rfl⟩
          | some v' =>
            obtain ⟨u', q1, _⟩ := h2 v' hv
            exact ⟨some u', q1, by rw [← e1, hv]; rfl⟩
        obtain ⟨r, r1, r2⟩ := h3
        cases neg with
        | false => exact op_in_kd kd pins s σ H x y v u Q I rx ry ⟨sg w, r, hd.1, ey, r1, by rw [r2]; exact q⟩
        | true => exact op_notIn_kd kd pins s σ H x y v u Q I rx ry ⟨sg w, r, hd.1, ey, r1, by rw [r2]; exact q⟩
    | _ => cases hk
  | _ =>
    rw [hv] at hk
    cases d <;> first | cases hk | (rename_i w; cases w with
        | nil => cases hk
        | cons c r => cases r <;> cases hk)
end
theorem opC {X : Cx} {G : Gn} (hK : G.K = X.K) (hW : G.w = X.w) (hu : X.A.units + 65 < cLine) (o : COp) : OpR X (compareOp (copOf o)) (rTwo G (copR o)) := by
  intro pins s σ H x y v u Q I rx ry h
  obtain ⟨U, ads, M, d, e, E, m, hd, he, h⟩ := h
  unfold copR at h
  split at h
  · rename_i k hk
    have q : Q (.bl k) H := Wk.now h m rfl
    cases o with
    | eq =>
      simp only [cop] at hk
      split at hk
      · rename_i f
        rw [Bool.and_eq_true] at f
        have e0 := Option.some.inj hk
        obtain ⟨a1, a2⟩ := view_dp m hd f.1
        obtain ⟨b1, b2⟩ := view_dp m he f.2
        rw [hK] at a1 b1
        exact op_eqD (by omega) pins s σ H x y v u Q I rx ry ⟨_, _, a1, b1, a2, b2, by rw [pd_eqv _ _ 60 60 f.1 f.2, e0]; exact q⟩
      · cases hk
    | ne =>
      simp only [cop] at hk
      split at hk
      · rename_i f
        rw [Bool.and_eq_true] at f
        have e0 := Option.some.inj hk
        obtain ⟨a1, a2⟩ := view_dp m hd f.1
        obtain ⟨b1, b2⟩ := view_dp m he f.2
        rw [hK] at a1 b1
        exact op_neD (by omega) pins s σ H x y v u Q I rx ry ⟨_, _, a1, b1, a2, b2, by rw [pd_eqv _ _ 60 60 f.1 f.2, e0]; exact q⟩
      · cases hk
    | lt =>
      cases d <;> cases e <;> simp only [cop] at hk <;> first | (cases hk; exact op_lt pins s σ H x y v u Q I rx ry ⟨_, _, hd, he, q⟩) | cases hk
    | le =>
      cases d <;> cases e <;> simp only [cop] at hk <;> first | (cases hk; exact op_le pins s σ H x y v u Q I rx ry ⟨_, _, hd, he, q⟩) | cases hk
    | gt =>
      cases d <;> cases e <;> simp only [cop] at hk <;> first | (cases hk; exact op_gt pins s σ H x y v u Q I rx ry ⟨_, _, hd, he, q⟩) | cases hk
    | ge =>
      cases d <;> cases e <;> simp only [cop] at hk <;> first | (cases hk; exact op_ge pins s σ H x y v u Q I rx ry ⟨_, _, hd, he, q⟩) | cases hk
    | is =>
      cases e with
      | non =>
        have e0 : isNon d = k := by
          cases d <;> exact Option.some.inj hk
        have e1 : decide (x = V.non) = k := by
          rw [← e0]
          cases d with
          | non => rw [show x = .non from hd]; rfl
          | bl _ => rw [show x = .bl _ from hd]; rfl
          | int _ => rw [show x = .int _ from hd]; rfl
          | str _ => rw [hd.1]; rfl
          | tup _ => obtain ⟨a, vs, e, _⟩ := hd; rw [e]; rfl
          | lst _ => obtain ⟨a, vs, e, _⟩ := hd; rw [e]; rfl
          | dct _ _ => obtain ⟨a, vs, e, _⟩ := hd; rw [e]; rfl
          | obj _ => obtain ⟨a, e, _⟩ := hd; rw [e]; rfl
        exact op_isN pins s σ H x y v u Q I rx ry ⟨he, by rw [e1]; exact q⟩
      | _ => cases d <;> cases hk
    | isn =>
      cases e with
      | non =>
        have e0 : (!isNon d) = k := by
          cases d <;> exact Option.some.inj hk
        have e1 : (!decide (x = V.non)) = k := by
          rw [← e0]
          cases d with
          | non => rw [show x = .non from hd]; rfl
          | bl _ => rw [show x = .bl _ from hd]; rfl
          | int _ => rw [show x = .int _ from hd]; rfl
          | str _ => rw [hd.1]; rfl
          | tup _ => obtain ⟨a, vs, e, _⟩ := hd; rw [e]; rfl
          | lst _ => obtain ⟨a, vs, e, _⟩ := hd; rw [e]; rfl
          | dct _ _ => obtain ⟨a, vs, e, _⟩ := hd; rw [e]; rfl
          | obj _ => obtain ⟨a, e, _⟩ := hd; rw [e]; rfl
        exact op_notN pins s σ H x y v u Q I rx ry ⟨he, by rw [e1]; exact q⟩
      | _ => cases d <;> cases hk
    | inn => exact isIn_cases (neg := false) hK hW hu m hd he hk I rx ry q
    | nin =>
      have hk2 : (isIn d (view M e)).map (! ·) = some k := hk
      cases hi : isIn d (view M e) with
      | none => rw [hi] at hk2; cases hk2
      | some j =>
        rw [hi] at hk2
        have e0 : (!j) = k := Option.some.inj hk2
        exact isIn_cases (neg := true) hK hW hu m hd he hi I rx ry (by rw [if_pos rfl, e0]; exact q)
  · exact h.elim
end Cy
end

section
set_option Elab.async false
set_option linter.all false
set_option maxRecDepth 100000
set_option maxHeartbeats 4000000
/-! Subscripts, built-in functions and methods. -/
namespace Cy
open PySem PySem.Spec PyProof.Rows L2

def indexR (x y : D) (M : Mem) : Res D := match index (view M x) y with
  | some d => .ok d M
  | none => .bad
section
variable {G : Gn} {U ads : List Addr} {H : Hp} {M : Mem}
theorem DenL.at_ {ds : List D} {vs : List Vv} {i : Int} {d : D} (h : DenL G U ads H ds vs) (e : atI ds i = some d) : ∃ v, L2.atI vs i = some v ∧ Den G U ads H d v := by
  unfold atI at e
  cases hj : ixN ds.length i with
  | none => rw [hj] at e; cases e
  | some j =>
    rw [hj] at e
    obtain ⟨v, a, b⟩ := h.get (i := j) (d := d) e
    refine ⟨v, ?_, b⟩
    have q : L2.ixN vs.length i = some j := by rw [← h.length]; exact hj
    show (L2.ixN vs.length i).bind (fun j => vs[j]?) = some v
    rw [q]
    exact a
end
theorem ixG {X : Cx} {G : Gn} (hK : G.K = X.K) (hW : G.w = X.w) (hu : X.A.units + 65 < cLine) : IxR X (rTwo G indexR) := by
  intro value slice pins s σ H x y v u Q I rx ry h hs
  obtain ⟨U, ads, M, d, e, E, m, hd, he, h⟩ := h
  unfold indexR at h
  split at h
  · rename_i r hr
    cases hv : view M d with
    | lst xs =>
      obtain ⟨a, vs, ex, ra, dl⟩ := view_lst m hd hv
      rw [hv] at hr
      cases e with
      | int i =>
        obtain ⟨w, hw, dw⟩ := dl.at_ hr
        exact ix_list value slice pins s σ H x y v u Q I rx ry ⟨a, vs, i, w, ex, he, by rw [← hK]; exact ra, hw, Wk.now h m dw⟩ hs
      | _ => cases hr
    | tup xs =>
      obtain ⟨a, vs, ex, ra, dl⟩ := view_tup hd hv
      rw [hv] at hr
      cases e with
      | int i =>
        obtain ⟨w, hw, dw⟩ := dl.at_ hr
        exact ix_tup value slice pins s σ H x y v u Q I rx ry ⟨a, vs, i, w, ex, he, by rw [← hK]; exact ra, hw, Wk.now h m dw⟩ hs
      | _ => cases hr
    | str z =>
      obtain ⟨ex, kz⟩ := view_str hd hv
      rw [hv] at hr
      cases e with
      | int i =>
        have hr2 : (atI z i).map (fun c => D.str [c]) = some r := hr
        obtain ⟨c, hc, e2⟩ := Option.map_eq_some_iff.mp hr2
        subst e2
        have mem : c ∈ z := by
          unfold atI at hc
          cases hj : ixN z.length i with
          | none => rw [hj] at hc; cases hc
          | some j => rw [hj] at hc; exact List.mem_of_getElem? hc
        refine ix_str value slice pins s σ H x y v u Q I rx ry ⟨sg z, i, c, ex, he, by rw [sg_len]; exact kz.1, by rw [sg_list]; exact hc, Wk.now h m ⟨rfl, ?_, fun c' hc' => ?_⟩⟩ hs
        · show 1 ≤ sizeLine
          rw [sizeLine_eq]; decide
        · rw [List.mem_singleton.mp hc']
          exact kz.2 c mem
      | _ => cases hr
    | dct ks ds =>
      obtain ⟨a, kvs, ex, ha, dd⟩ := view_dct hd hv
      rw [hv] at hr
      cases e with
      | str k =>
        obtain ⟨_, w, hw, dw⟩ := (find_of k dd).2 r hr
        rcases ha with ha | ⟨⟨es, n, kd⟩, hz⟩
        · subst ex
          cases (show v = Value.ref a from rx)
          have hg : DGet H a y (some w) := by
            rw [show y = kV (Sum.inr (sg k)) from he.1, ← hw]
            exact DGet.k ha
          exact tail_any (dict_typeIs I hg) PySem.F.slot_dict_getitem.lookup (d_getItem (by omega) I hg ry fun w' s' I' r' => ⟨w, H, I', r', Wk.now h m dw⟩) hs
        · rw [hK, hW] at kd
          obtain ⟨u', q1, q2⟩ := (hz (sg k)).2 w hw
          rw [hK] at q1
          subst ex
          cases (show v = Value.ref a from rx)
          exact tail_any (kd_type kd I) PySem.F.slot_dict_getitem.lookup (op_item_kd kd pins s σ H (V.ref a) y (.ref a) u Q I rfl ry ⟨sg k, u', w, rfl, he.1, q1, q2, Wk.now h m dw⟩) hs
      | _ => cases hr
    | _ => rw [hv] at hr; cases e <;> cases hr
  · exact h.elim

/-! ### slices -/
theorem sIx_eq (n d : Nat) (o : Option Int) : HT.sIx n d o = sIx n d o := by
  cases o <;> rfl
def sliceR (l : Bool) (x : D) (lo hi : Option Int) (M : Mem) : Res D := match slice (view M x) lo hi with
  | some (.lst xs) => mkL l xs M
  | some d => if l then .bad else .ok d M
  | none => .bad
def rSl (G : Gn) (l : Bool) : Vv → Option Int → Option Int → Hp → VK → Prop := fun x lo hi H Q => ∃ U ads M d E, MemOk G U ads H M ∧ Den G U ads H d x ∧ Wk G (Den G) U ads H (sliceR l d lo hi M) Q E
theorem DenL.cut {G : Gn} {U ads : List Addr} {H : Hp} {ds : List D} {vs : List Vv} (h : DenL G U ads H ds vs) (lo hi : Option Int) : DenL G U ads H (cut ds lo hi) (cutV vs lo hi) := by
  have e : cutV vs lo hi = (vs.drop (sIx ds.length 0 lo)).take (sIx ds.length ds.length hi - sIx ds.length 0 lo) := by
    unfold cutV
    rw [sIx_eq, sIx_eq, h.length]
  rw [e]
  exact (h.drop _).take _
theorem slG {X : Cx} {G : Gn} (hK : G.K = X.K) (l : Bool) : SlR X (rSl G l) := by
  intro pins s σ H x v vl vu lo hi sl Q I rx hs pl pu h
  obtain ⟨U, ads, M, d, E, m, hd, h⟩ := h
  unfold sliceR at h
  cases hv : view M d with
  | lst xs =>
    obtain ⟨a, vs, ex, ra, dl⟩ := view_lst m hd hv
    rw [hv] at h
    exact sl_list pins s σ H x v vl vu lo hi sl Q I rx hs pl pu ⟨a, vs, ex, by rw [← hK]; exact ra, fun p hp => Wk.mk h m (dl.cut lo hi) hp⟩
  | tup xs =>
    obtain ⟨a, vs, ex, ra, dl⟩ := view_tup hd hv
    rw [hv] at h
    cases l with
    | true => exact h.elim
    | false =>
      refine sl_tupA pins s σ H x v vl vu lo hi sl Q I rx hs pl pu ⟨a, vs, ex, by rw [← hK]; exact ra, fun z => ?_, fun _ p hp => Wk.tup h m (dl.cut lo hi) hp⟩
      have e : cut xs lo hi = xs := by
        unfold cut
        rw [dl.length, ← sIx_eq, ← sIx_eq, z.1, z.2, ← dl.length]
        simp
      have h : Wk G (Den G) U ads H (.ok (.tup (cut xs lo hi)) M) Q E := h
      rw [e] at h
      exact Wk.now h m ⟨a, vs, rfl, ra, dl⟩
  | str z =>
    obtain ⟨ex, kz⟩ := view_str hd hv
    rw [hv] at h
    cases l with
    | true => exact h.elim
    | false =>
      have e : cutS (sg z) lo hi = sg (cut z lo hi) := by
        unfold cutS cut sg
        rw [sIx_eq, sIx_eq, show (⟨z.toArray⟩ : Str).length = z.length from sg_len z]
      refine sl_str pins s σ H x v vl vu lo hi sl Q I rx hs pl pu ⟨sg z, ex, by rw [sg_len]; exact kz.1, ?_⟩
      rw [e]
      refine Wk.now h m ⟨rfl, ?_, fun c hc => kz.2 c (List.mem_of_mem_drop (List.mem_of_mem_take hc))⟩
      unfold cut
      rw [List.length_take, List.length_drop]
      have := kz.1
      omega
  | _ => rw [hv] at h; exact h.elim

/-! ### built-in functions -/
def biVal : Bi → Value
  | .len => .builtin "len"
  | .abs => .builtin "abs"
  | .sum => .builtin "sum"
  | .max => .builtin "max"
  | .min => .builtin "min"
  | .all => .builtin "all"
  | .any => .builtin "any"
  | .int => .type "int"
  | .str => .type "str"
  | .list => .type "list"
  | .listL => .type "list"
  | .tuple => .type "tuple"
  | .sorted => .builtin "sorted"
section
variable {G : Gn} {U ads : List Addr} {H : Hp} {M : Mem}
theorem DenL.one {d : D} {vs : List Vv} (h : DenL G U ads H [d] vs) : ∃ v, vs = [v] ∧ Den G U ads H d v := by
  obtain ⟨v, r, e, h1, h2⟩ := h
  cases (show r = [] from h2)
  exact ⟨v, e, h1⟩
theorem DenL.two {d e : D} {vs : List Vv} (h : DenL G U ads H [d, e] vs) : ∃ v w, vs = [v, w] ∧ Den G U ads H d v ∧ Den G U ads H e w := by
  obtain ⟨v, r, q, h1, h2⟩ := h
  obtain ⟨w, q2, h3⟩ := h2.one
  exact ⟨v, w, by rw [q, q2], h1, h3⟩
theorem den_ints : ∀ {xs : List D} {l : List Int} {vs : List Vv}, intsOf xs = some l → DenL G U ads H xs vs → vs = l.map V.int
  | [], l, vs, e, h => by cases e; exact h
  | x :: xs, l, vs, e, h => by
    obtain ⟨v, r, q, h1, h2⟩ := h
    cases x with
    | int i =>
      have e2 : (intsOf xs).map (i :: ·) = some l := e
      obtain ⟨k, e3, e4⟩ := Option.map_eq_some_iff.mp e2
      rw [q, den_ints e3 h2, ← e4, show v = .int i from h1]
      rfl
    | _ => cases e
theorem den_bols : ∀ {xs : List D} {l : List Bool} {vs : List Vv}, bolsOf xs = some l → DenL G U ads H xs vs → vs = l.map V.bl
  | [], l, vs, e, h => by cases e; exact h
  | x :: xs, l, vs, e, h => by
    obtain ⟨v, r, q, h1, h2⟩ := h
    cases x with
    | bl i =>
      have e2 : (bolsOf xs).map (i :: ·) = some l := e
      obtain ⟨k, e3, e4⟩ := Option.map_eq_some_iff.mp e2
      rw [q, den_bols e3 h2, ← e4, show v = .bl i from h1]
      rfl
    | _ => cases e
theorem den_strs : ∀ {xs : List D} {l : List (List Nat)} {vs : List Vv}, strsOf xs = some l → DenL G U ads H xs vs → vs = (l.map sg).map V.str ∧ ∀ s ∈ l, okS s
  | [], l, vs, e, h => by cases e; exact ⟨h, fun _ z => by cases z⟩
  | x :: xs, l, vs, e, h => by
    obtain ⟨v, r, q, h1, h2⟩ := h
    cases x with
    | str i =>
      have e2 : (strsOf xs).map (i :: ·) = some l := e
      obtain ⟨k, e3, e4⟩ := Option.map_eq_some_iff.mp e2
      obtain ⟨a1, a2⟩ := den_strs e3 h2
      refine ⟨by rw [q, a1, ← e4, h1.1]; rfl, fun s hs => ?_⟩
      rw [← e4] at hs
      rcases List.mem_cons.mp hs with z | z
      · rw [z]; exact h1.2
      · exact a2 s z
    | _ => cases e
theorem maxL_ok : ∀ {l : List Int} {i : Int}, maxL l = some i → i ∈ l ∧ ∀ y ∈ l, y ≤ i
  | [], _, h => by cases h
  | [x], i, h => by cases h; exact ⟨by simp, fun y hy => by rw [List.mem_singleton.mp hy]; exact Int.le_refl _⟩
  | x :: y :: r, i, h => by
    have h2 : (maxL (y :: r)).map (fun y => if x < y then y else x) = some i := h
    obtain ⟨k, e1, e2⟩ := Option.map_eq_some_iff.mp h2
    obtain ⟨a, b⟩ := maxL_ok e1
    by_cases c : x < k
    · rw [if_pos c] at e2
      subst e2
      refine ⟨List.mem_cons_of_mem _ a, fun z hz => ?_⟩
      rcases List.mem_cons.mp hz with q | q
      · omega
      · exact b z q
    · rw [if_neg c] at e2
      subst e2
      refine ⟨List.mem_cons_self, fun z hz => ?_⟩
      rcases List.mem_cons.mp hz with q | q
      · omega
      · have := b z q; omega
theorem items_of {d : D} {x : Vv} {xs : List D} (m : MemOk G U ads H M) (h : Den G U ads H d x) (e : items (view M d) = some xs) : ∃ a vs, x = .ref a ∧ (SqL G.K H a vs ∨ SqT G.K H a vs) ∧ DenL G U ads H xs vs := by
  cases hv : view M d with
  | lst ys =>
    rw [hv] at e
    cases e
    obtain ⟨a, vs, e1, e2, e3⟩ := view_lst m h hv
    exact ⟨a, vs, e1, .inl e2, e3⟩
  | tup ys =>
    rw [hv] at e
    cases e
    obtain ⟨a, vs, e1, e2, e3⟩ := view_tup h hv
    exact ⟨a, vs, e1, .inr e2, e3⟩
  | _ => rw [hv] at e; cases e
end
theorem digs_eq : ∀ (f n : Nat) (acc : List Nat), n.log2 ≤ f → digs f n acc = TL.numL n ++ acc
  | 0, n, acc, h => by
    have h1 : n < 2 := by
      by_cases h0 : n = 0
      · omega
      · have := (Nat.log2_lt h0 (k := 1)).mp (by omega)
        omega
    rw [TL.numL_lt (by omega)]
    show (48 + n % 10) :: acc = _
    rw [Nat.mod_eq_of_lt (by omega)]
    rfl
  | f + 1, n, acc, h => by
    show (if Nat.blt n 10 then (48 + n) :: acc else digs f (n / 10) ((48 + n % 10) :: acc)) = _
    by_cases hn : n < 10
    · rw [if_pos (by simpa [Nat.blt_eq] using hn), TL.numL_lt hn]
      rfl
    · rw [if_neg (by simpa [Nat.blt_eq] using hn)]
      have h2 : (n / 10).log2 ≤ f := by
        have h3 : (n / 10).log2 < f + 1 := by
          refine (Nat.log2_lt (by omega)).mpr ?_
          have h4 := Nat.lt_log2_self (n := n)
          have h5 : 2 ^ (n.log2 + 1) ≤ 2 ^ (f + 1 + 1) := Nat.pow_le_pow_right (by decide) (by omega)
          rw [Nat.pow_succ 2 (f + 1)] at h5
          omega
        omega
      rw [digs_eq f (n / 10) _ h2, TL.numL_step (n := n) (by omega)]
      simp
theorem numT_eq (n : Nat) : numT n = TL.numL n := by
  unfold numT
  rw [digs_eq _ _ _ (Nat.le_refl _), List.append_nil]
end Cy
end

section
set_option Elab.async false
set_option linter.all false
set_option maxRecDepth 100000
set_option maxHeartbeats 4000000
/-! Built-in functions and methods. -/
namespace Cy
open PySem PySem.Spec PyProof.Rows L2

theorem biG {X : Cx} {G : Gn} (hK : G.K = X.K) (hc : X.calm = true) (b : Bi) : CallR X (biVal b) (rArg G (bi b)) := by
  intro pins s σ H xs us Q I r h
  obtain ⟨U, ads, M, d, E, m, hd, h⟩ := h
  cases b with
  | len =>
    match d, h, hd with
    | [x], h, hd =>
      obtain ⟨v, ev, dv⟩ := hd.one
      subst ev
      simp only [bi] at h
      split at h
      · rename_i ys hv
        obtain ⟨a, vs, e1, e2, e3⟩ := view_lst m dv hv
        rw [e3.length] at h
        exact call_len pins s σ H _ us Q I r ⟨v, vs.length, rfl, by rw [e1]; exact .inl ⟨vs, by rw [← hK]; exact e2, rfl⟩, Wk.now h m rfl⟩
      · rename_i ys hv
        obtain ⟨a, vs, e1, e2, e3⟩ := view_tup dv hv
        rw [e3.length] at h
        exact call_len pins s σ H _ us Q I r ⟨v, vs.length, rfl, by rw [e1]; exact .inr ⟨vs, by rw [← hK]; exact e2, rfl⟩, Wk.now h m rfl⟩
      · rename_i ys hv
        obtain ⟨e1, e2⟩ := view_str dv hv
        exact call_len pins s σ H _ us Q I r ⟨v, ys.length, rfl, by rw [e1]; exact ⟨by rw [sg_len]; exact e2.1, (sg_len ys).symm⟩, Wk.now h m rfl⟩
      · exact h.elim
    | [], h, _ => exact h.elim
    | _ :: _ :: _, h, _ => exact h.elim
  | abs =>
    match d, h, hd with
    | [.int i], h, hd =>
      obtain ⟨v, ev, dv⟩ := hd.one
      rw [show v = .int i from dv] at ev
      exact call_abs pins s σ H _ us Q I r ⟨i, ev, Wk.now h m rfl⟩
    | [], h, _ => exact h.elim
    | [.non], h, _ => exact h.elim
    | [.bl _], h, _ => exact h.elim
    | [.str _], h, _ => exact h.elim
    | [.tup _], h, _ => exact h.elim
    | [.lst _], h, _ => exact h.elim
    | [.dct _ _], h, _ => exact h.elim
    | [.obj _], h, _ => exact h.elim
    | x :: _ :: _, h, _ => cases x <;> exact h.elim
  | sum =>
    match d, h, hd with
    | [x], h, hd =>
      obtain ⟨v, ev, dv⟩ := hd.one
      subst ev
      simp only [bi] at h
      split at h
      · rename_i ys hv
        split at h
        · rename_i l hl
          obtain ⟨a, vs, e1, e2, e3⟩ := view_lst m dv hv
          have e4 := den_ints hl e3
          subst e4
          exact cr_sum hc pins s σ H _ us Q I r ⟨a, l, by rw [e1], by rw [← hK]; exact e2, Wk.now h m rfl⟩
        · exact h.elim
      · exact h.elim
    | [], h, _ => exact h.elim
    | _ :: _ :: _, h, _ => exact h.elim
  | max =>
    match d, h, hd with
    | [x], h, hd =>
      obtain ⟨v, ev, dv⟩ := hd.one
      subst ev
      simp only [bi] at h
      split at h
      · rename_i ys hv
        split at h
        · rename_i l hl
          split at h
          · rename_i i hi
            obtain ⟨a, vs, e1, e2, e3⟩ := view_lst m dv hv
            have e4 := den_ints hl e3
            subst e4
            obtain ⟨b1, b2⟩ := maxL_ok hi
            refine cr_max hc pins s σ H _ us Q I r ⟨a, l, by rw [e1], by rw [← hK]; exact e2, List.length_pos_of_mem b1, fun k k1 k2 => ?_⟩
            have e5 : k = i := Int.le_antisymm (b2 k k1) (k2 i b1)
            subst e5
            exact Wk.now h m rfl
          · exact h.elim
        · exact h.elim
      · exact h.elim
    | [x, y], h, hd =>
      obtain ⟨v, w, ev, dv, dw⟩ := hd.two
      subst ev
      cases x <;> cases y <;> first | exact h.elim | skip
      rename_i i j
      exact call_max2 hc pins s σ H _ us Q I r ⟨i, j, by rw [show v = .int i from dv, show w = .int j from dw], Wk.now h m rfl⟩
    | [], h, _ => exact h.elim
    | x :: y :: _ :: _, h, _ => cases x <;> cases y <;> exact h.elim
  | min =>
    match d, h, hd with
    | [x, y], h, hd =>
      obtain ⟨v, w, ev, dv, dw⟩ := hd.two
      subst ev
      cases x <;> cases y <;> first | exact h.elim | skip
      rename_i i j
      exact call_min2 hc pins s σ H _ us Q I r ⟨i, j, by rw [show v = .int i from dv, show w = .int j from dw], Wk.now h m rfl⟩
    | [], h, _ => exact h.elim
    | [x], h, _ => cases x <;> exact h.elim
    | x :: y :: _ :: _, h, _ => cases x <;> cases y <;> exact h.elim
  | all =>
    match d, h, hd with
    | [x], h, hd =>
      obtain ⟨v, ev, dv⟩ := hd.one
      subst ev
      cases x with
      | lst ys =>
        simp only [bi] at h
        split at h
        · rename_i l hl
          obtain ⟨a, vs, e1, e2, e3⟩ := dv
          have e2 := KLs.sq e2
          have e4 := den_bols hl e3
          subst e4
          exact cr_all hc pins s σ H _ us Q I r ⟨a, l, by rw [e1], by rw [← hK]; exact e2, Wk.now h m rfl⟩
        · exact h.elim
      | _ => exact h.elim
    | [], h, _ => exact h.elim
    | x :: _ :: _, h, _ => cases x <;> exact h.elim
  | any =>
    match d, h, hd with
    | [x], h, hd =>
      obtain ⟨v, ev, dv⟩ := hd.one
      subst ev
      cases x with
      | lst ys =>
        simp only [bi] at h
        split at h
        · rename_i l hl
          obtain ⟨a, vs, e1, e2, e3⟩ := dv
          have e2 := KLs.sq e2
          have e4 := den_bols hl e3
          subst e4
          exact cr_any hc pins s σ H _ us Q I r ⟨a, l, by rw [e1], by rw [← hK]; exact e2, Wk.now h m rfl⟩
        · exact h.elim
      | _ => exact h.elim
    | [], h, _ => exact h.elim
    | x :: _ :: _, h, _ => cases x <;> exact h.elim
  | int =>
    match d, h, hd with
    | [x], h, hd =>
      obtain ⟨v, ev, dv⟩ := hd.one
      subst ev
      cases x with
      | str z =>
        simp only [bi] at h
        split at h
        · rename_i hw
          rw [Bool.and_eq_true, Bool.and_eq_true] at hw
          have h1 := Nat.le_of_ble_eq_true hw.1.2
          have h2 := Nat.le_of_ble_eq_true hw.2
          refine call_int_str pins s σ H _ us Q I r ⟨sg z, _, by rw [dv.1], SX.int_S (a := z) ?_ ?_ (by omega), by rw [sg_len]; omega, Wk.now h m rfl⟩
          · refine List.all_eq_true.mpr fun c hcm => ?_
            have q := List.all_eq_true.mp hw.1.1 c hcm
            unfold isDig at q
            rw [Bool.and_eq_true] at q
            rw [Bool.and_eq_true, decide_eq_true_eq, decide_eq_true_eq]
            exact ⟨Nat.le_of_ble_eq_true q.1, Nat.le_of_ble_eq_true q.2⟩
          · intro z0
            subst z0
            exact absurd h1 (by decide)
        · exact h.elim
      | bl k => exact call_int1 pins s σ H _ us Q I r (.inr ⟨k, by rw [show v = .bl k from dv], Wk.now h m rfl⟩)
      | _ => exact h.elim
    | [], h, _ => exact h.elim
    | x :: _ :: _, h, _ => cases x <;> exact h.elim
  | str =>
    match d, h, hd with
    | [x], h, hd =>
      obtain ⟨v, ev, dv⟩ := hd.one
      subst ev
      cases x with
      | int i =>
        simp only [bi] at h
        split at h
        · rename_i hw
          rw [Bool.and_eq_true] at hw
          have h1 := of_decide_eq_true hw.1
          have h2 := Nat.le_of_ble_eq_true hw.2
          have e0 : i = ((i.toNat : Nat) : Int) := (Int.toNat_of_nonneg h1).symm
          have en : i.natAbs = i.toNat := by omega
          refine call_str_int pins s σ H _ us Q I r ⟨i, by rw [show v = .int i from dv], by rw [en]; omega, ?_⟩
          have e1 : Str.ofString (toString i) = sg (numT i.toNat) := by
            rw [numT_eq]
            conv => lhs; rw [e0]
            exact SX.num_S i.toNat
          show Q (.str (Str.ofString (toString i))) H
          rw [e1]
          refine Wk.now h m ⟨rfl, ?_, fun c hcm => ?_⟩
          · rw [numT_eq]
            have h3 : i.toNat < 2 ^ 200 := by
              by_cases z : i.toNat = 0
              · rw [z]; decide
              · exact (Nat.log2_lt z).mp h2
            have h4 := TL.numL_len (n := i.toNat) (k := 100) (by decide) (Nat.lt_trans h3 (by decide))
            rw [sizeLine_eq]; omega
          · rw [numT_eq] at hcm
            have := TL.numL_digits i.toNat c hcm
            omega
        · exact h.elim
      | _ => exact h.elim
    | [], h, _ => exact h.elim
    | x :: _ :: _, h, _ => cases x <;> exact h.elim
  | list =>
    match d, h, hd with
    | [x], h, hd =>
      obtain ⟨v, ev, dv⟩ := hd.one
      subst ev
      simp only [bi] at h
      split at h
      · rename_i ys hv
        obtain ⟨a, vs, e1, e2, e3⟩ := view_lst m dv hv
        exact call_list_of pins s σ H _ us Q I r ⟨a, vs, by rw [e1], .inl (by rw [← hK]; exact e2), fun l hl => Wk.lst h m e3 hl⟩
      · rename_i ys hv
        obtain ⟨a, vs, e1, e2, e3⟩ := view_tup dv hv
        exact call_list_of pins s σ H _ us Q I r ⟨a, vs, by rw [e1], .inr (by rw [← hK]; exact e2), fun l hl => Wk.lst h m e3 hl⟩
      · exact h.elim
    | [], h, _ => exact h.elim
    | _ :: _ :: _, h, _ => exact h.elim
  | listL =>
    match d, h, hd with
    | [x], h, hd =>
      obtain ⟨v, ev, dv⟩ := hd.one
      subst ev
      simp only [bi] at h
      split at h
      · rename_i ys hv
        obtain ⟨a, vs, e1, e2, e3⟩ := view_lst m dv hv
        exact call_list_of pins s σ H _ us Q I r ⟨a, vs, by rw [e1], .inl (by rw [← hK]; exact e2), fun l hl => Wk.mk h m e3 hl⟩
      · rename_i ys hv
        obtain ⟨a, vs, e1, e2, e3⟩ := view_tup dv hv
        exact call_list_of pins s σ H _ us Q I r ⟨a, vs, by rw [e1], .inr (by rw [← hK]; exact e2), fun l hl => Wk.mk h m e3 hl⟩
      · exact h.elim
    | [], h, _ => exact h.elim
    | _ :: _ :: _, h, _ => exact h.elim
  | tuple =>
    match d, h, hd with
    | [x], h, hd =>
      obtain ⟨v, ev, dv⟩ := hd.one
      subst ev
      simp only [bi] at h
      split at h
      · rename_i ys hv
        obtain ⟨a, vs, e1, e2, e3⟩ := view_lst m dv hv
        exact call_tuple_of pins s σ H _ us Q I r ⟨a, vs, by rw [e1], .inl ⟨by rw [← hK]; exact e2, fun l hl => Wk.tup h m e3 hl⟩⟩
      · rename_i ys hv
        obtain ⟨a, vs, e1, e2, e3⟩ := view_tup dv hv
        exact call_tuple_of pins s σ H _ us Q I r ⟨a, vs, by rw [e1], .inr ⟨by rw [← hK]; exact e2, Wk.now h m ⟨a, vs, rfl, e2, e3⟩⟩⟩
      · exact h.elim
    | [], h, _ => exact h.elim
    | _ :: _ :: _, h, _ => exact h.elim
  | sorted => exact (by cases d <;> exact h.elim : False).elim

/-! ### a label's object is written -/
section
variable {G : Gn} {U ads : List Addr} {H : Hp} {M : Mem} {E : XK}
theorem Kp.wr {a : Addr} {o o' : HO} (ha : a ∈ U) (h : H a = some o) (nt : ∀ xs, o ≠ .tup xs) (nf : ∀ u xs, o ≠ .frz u (.tup xs)) : Kp G U ads H U ads (upd H a o') where
  tup := fun b xs q => by
    rcases q with (q | ⟨u, q⟩) | q
    · exact .inl (.inl ((upd_ne (fun e => by rw [e, h] at q; cases q; exact nt _ rfl)).trans q))
    · exact .inl (.inr ⟨u, (upd_ne (fun e => by rw [e, h] at q; cases q; exact nf _ _ rfl)).trans q⟩)
    · exact .inr q
  lst := fun b xs q n => by
    have e : b ≠ a := fun e => n (by rw [e]; exact ha)
    refine ⟨?_, n⟩
    rcases q with q | ⟨u, q⟩
    · exact .inl ((upd_ne e).trans q)
    · exact .inr ⟨u, (upd_ne e).trans q⟩
  dct := fun b kvs q n => ⟨(upd_ne (fun e => n (by rw [e]; exact ha))).trans q, n⟩
  lab := fun _ _ q => q
/-- the new object o' for the label l -/
theorem Stp.wr {l : Nat} {a : Addr} {o o' : HO} {mo : MO} (m : MemOk G U ads H M) (hl : ads[l]? = some a) (h : H a = some o) (nt : ∀ xs, o ≠ .tup xs) (nf : ∀ u xs, o ≠ .frz u (.tup xs))
    (new : ObjD G U ads (upd H a o') mo a) : Stp G U ads H [] (M.set l mo) (upd H a o') := by
  have ha : a ∈ ads := List.mem_of_getElem? hl
  have k : Kp G U ads H U ads (upd H a o') := Kp.wr (m.sub a ha) h nt nf
  refine ⟨fun _ z => (by cases z), fun b q hb n _ => ?_, fun b hb => upd_dom b hb, ?_⟩
  · exact (upd_ne (fun e => n (by rw [e]; exact ha))).trans hb
  · simp only [List.append_nil]
    refine ⟨by rw [List.length_set]; exact m.len, m.nd, m.sub, fun b hb => upd_dom b (m.trk b hb), fun j q b h1 h2 => ?_⟩
    by_cases hj : l = j
    · subst hj
      have hlt : l < M.length := by rw [← m.len]; exact (List.getElem?_eq_some_iff.mp hl).1
      rw [List.getElem?_set_self hlt] at h1
      cases h1
      rw [hl] at h2
      cases h2
      exact new
    · rw [List.getElem?_set_ne hj] at h1
      have hne : b ≠ a := fun e => by
        subst e
        exact hj ((List.getElem?_inj (List.getElem?_eq_some_iff.mp hl).1 m.nd).mp (hl.trans h2.symm))
      have z := m.at_ j q b h1 h2
      cases q with
      | lst xs => obtain ⟨vs, q1, q2⟩ := z; exact ⟨vs, (upd_ne hne).trans q1, q2.kp k⟩
      | ins c fs => obtain ⟨dx, gs, q1, q2⟩ := z; exact ⟨dx, gs, (upd_ne hne).trans q1, Flds.kp k _ _ q2⟩
      | dct ks ds => obtain ⟨kvs, q1, q2⟩ := z; exact ⟨kvs, (upd_ne hne).trans q1, q2.kp k⟩
/-- a label's list becomes another -/
theorem Wk.wl {l : Nat} {a : Addr} {xs : List D} {vs vs' : List Vv} {d : D} {v : Vv} {Q : Vv → Hp → Prop} (h : Wk G (Den G) U ads H (.ok d (M.set l (.lst xs))) Q E) (m : MemOk G U ads H M) (hl : ads[l]? = some a) (hH : H a = some (.lst vs))
    (r : DenL G U ads H xs vs') (rd : Den G U ads H d v) : Q v (upd H a (.lst vs')) := by
  have ha : a ∈ ads := List.mem_of_getElem? hl
  have k : Kp G U ads H U ads (upd H a (.lst vs')) := Kp.wr (m.sub a ha) hH (fun _ z => by cases z) (fun _ _ z => by cases z)
  refine h [] v _ (Stp.wr m hl hH (fun _ z => by cases z) (fun _ _ z => by cases z) ⟨vs', upd_same, r.kp k⟩) ?_
  simp only [List.append_nil]
  exact Den.kp k d v rd
theorem DenL.dropLast : ∀ {ds : List D} {vs : List Vv}, DenL G U ads H ds vs → DenL G U ads H ds.dropLast vs.dropLast := fun {ds vs} h => by
  rw [List.dropLast_eq_take, List.dropLast_eq_take, ← h.length]
  exact h.take _
end

def bmT : Bm → String
  | .append => "list"
  | .pop => "list"
  | .join => "str"
  | .sindex => "str"
  | .replace => "str"
def rMt (G : Gn) (b : Bm) : Vv → List Vv → Hp → VK → Prop := fun x xs H Q => ∃ U ads M d ds E, MemOk G U ads H M ∧ Den G U ads H d x ∧ DenL G U ads H ds xs ∧ Wk G (Den G) U ads H (bm b d ds M) Q E
def bmId : Bm → String
  | .append => "list.append"
  | .pop => "list.pop"
  | .join => "str.join"
  | .sindex => "str.index"
  | .replace => "str.replace"
theorem join_sg (s : List Nat) : ∀ l : List (List Nat), Str.join (sg s) (l.map sg) = sg (joinT s l)
  | [] => rfl
  | [x] => rfl
  | x :: y :: r => by
    have ih := join_sg s (y :: r)
    show sg x ++ sg s ++ Str.join (sg s) ((y :: r).map sg) = sg (x ++ s ++ joinT s (y :: r))
    rw [ih, sg_app, sg_app]
theorem joinT_mem {s : List Nat} {c : Nat} : ∀ {l : List (List Nat)}, c ∈ joinT s l → c ∈ s ∨ ∃ x ∈ l, c ∈ x
  | [], h => by cases h
  | [x], h => .inr ⟨x, by simp, h⟩
  | x :: y :: r, h => by
    rcases List.mem_append.mp h with h | h
    · rcases List.mem_append.mp h with h | h
      · exact .inr ⟨x, by simp, h⟩
      · exact .inl h
    · rcases joinT_mem h with q | ⟨z, hz, q⟩
      · exact .inl q
      · exact .inr ⟨z, List.mem_cons_of_mem _ hz, q⟩
theorem joinT_len (s : List Nat) : ∀ l : List (List Nat), (joinT s l).length ≤ (l.map List.length).sum + l.length * s.length
  | [] => by simp [joinT]
  | [x] => by simp [joinT]
  | x :: y :: r => by
    have ih := joinT_len s (y :: r)
    have e : joinT s (x :: y :: r) = x ++ s ++ joinT s (y :: r) := rfl
    rw [e, List.length_append, List.length_append, List.map_cons, List.sum_cons, List.length_cons, Nat.succ_mul]
    omega
end Cy
end

section
set_option Elab.async false
set_option linter.all false
set_option maxRecDepth 100000
set_option maxHeartbeats 4000000
/-! Methods of built-in types. -/
namespace Cy
open PySem PySem.Spec PyProof.Rows L2

section
variable {G : Gn} {U ads : List Addr} {H : Hp} {M : Mem}
theorem lab_lst {l : Nat} {xs : List D} {x : Vv} (m : MemOk G U ads H M) (h : Den G U ads H (.obj l) x) (e : M[l]? = some (.lst xs)) : ∃ a vs, x = .ref a ∧ ads[l]? = some a ∧ H a = some (.lst vs) ∧ DenL G U ads H xs vs := by
  obtain ⟨a, e1, e2⟩ := h
  obtain ⟨vs, q1, q2⟩ := m.at_ l _ a e e2
  exact ⟨a, vs, e1, e2, q1, q2⟩
end
theorem bmG {X : Cx} {G : Gn} (hK : G.K = X.K) (hc : X.calm = true) (b : Bm) : MtR X (bmId b) (rMt G b) := by
  intro pins s σ H x xs v us Q I rx rus h
  obtain ⟨U, ads, M, d, ds, E, m, hd, hds, h⟩ := h
  cases b with
  | append =>
    cases d with
    | obj l =>
      match ds, h, hds with
      | [y], h, hds =>
        obtain ⟨w, ew, dw⟩ := hds.one
        subst ew
        simp only [bm] at h
        split at h
        · rename_i ys hl
          split at h
          · rename_i hw
            have hw := Nat.le_of_ble_eq_true hw
            obtain ⟨a, vs, e1, e2, e3, e4⟩ := lab_lst m hd hl
            refine mt_append pins s σ H x _ v us Q I rx rus ⟨a, vs, w, e1, rfl, e3, by rw [← e4.length, ← top_eq]; exact hw, ?_⟩
            exact Wk.wl h m e2 e3 (e4.app ⟨w, [], rfl, dw, rfl⟩) rfl
          · exact h.elim
        · exact h.elim
      | [], h, _ => exact h.elim
      | _ :: _ :: _, h, _ => exact h.elim
    | _ => exact h.elim
  | pop =>
    cases d with
    | obj l =>
      match ds, h, hds with
      | [], h, hds =>
        cases (show xs = [] from hds)
        simp only [bm] at h
        split at h
        · rename_i ys hl
          split at h
          · rename_i z hz
            obtain ⟨a, vs, e1, e2, e3, e4⟩ := lab_lst m hd hl
            obtain ⟨w, hw, dw⟩ := e4.get hz
            refine mt_pop pins s σ H x _ v us Q I rx rus ⟨a, vs, w, e1, rfl, e3, by rw [← e4.length]; exact hw, ?_⟩
            exact Wk.wl h m e2 e3 e4.dropLast dw
          · exact h.elim
        · exact h.elim
      | [y], h, hds =>
        cases y with
        | int i =>
          obtain ⟨w, ew, dw⟩ := hds.one
          subst ew
          cases (show w = .int i from dw)
          simp only [bm] at h
          split at h
          · rename_i ys hl
            split at h
            · rename_i z hz
              split at h
              · rename_i hi
                rw [Bool.and_eq_true] at hi
                have hs := hi.2
                have hi := of_decide_eq_true hi.1
                unfold small at hs
                rw [Bool.and_eq_true] at hs
                have hs2 := of_decide_eq_true hs.2
                obtain ⟨a, vs, e1, e2, e3, e4⟩ := lab_lst m hd hl
                have hk : i < (ys.length : Int) ∧ ys[i.toNat]? = some z := by
                  unfold atI ixN at hz
                  rw [if_pos hi] at hz
                  by_cases q : i < (ys.length : Int)
                  · rw [if_pos q] at hz
                    exact ⟨q, hz⟩
                  · rw [if_neg q] at hz
                    cases hz
                obtain ⟨w, hw, dw⟩ := e4.get hk.2
                refine mt_popAt pins s σ H x _ v us Q I rx rus ⟨a, vs, i, i.toNat, w, e1, rfl, e3, by omega, by omega, ?_, hw, ?_⟩
                · unfold seqIndex?
                  simp only [if_neg (show ¬ i < 0 by omega)]
                  rw [if_pos]
                  rw [Bool.and_eq_true, decide_eq_true_eq, decide_eq_true_eq, ← e4.length]
                  exact ⟨hi, hk.1⟩
                · exact Wk.wl h m e2 e3 (e4.erase _) dw
              · exact h.elim
            · exact h.elim
          · exact h.elim
        | _ => exact h.elim
      | y :: _ :: _, h, _ => cases y <;> exact h.elim
    | _ => exact h.elim
  | join =>
    cases d with
    | str z =>
      match ds, h, hds with
      | [y], h, hds =>
        obtain ⟨w, ew, dw⟩ := hds.one
        subst ew
        simp only [bm] at h
        split at h
        · rename_i ys hl
          split at h
          · rename_i l hl2
            split at h
            · rename_i hw
              have hw := Nat.le_of_ble_eq_true hw
              obtain ⟨a, vs, e1, e2, e3⟩ := view_lst m dw hl
              obtain ⟨e4, e5⟩ := den_strs hl2 e3
              subst e4
              have esz : ((l.map sg).map (·.length)).sum + (l.map sg).length * (sg z).length ≤ 16777216 := by
                rw [List.map_map, List.length_map, sg_len]
                have : (fun x : Str => x.length) ∘ sg = List.length := funext fun s => sg_len s
                rw [this]
                exact hw
              refine mt_join pins s σ H x _ v us Q I rx rus ⟨sg z, a, l.map sg, hd.1, by rw [e1], .inl (by rw [← hK]; exact e2), esz, ?_⟩
              rw [TL.join_eq, join_sg]
              refine Wk.now h m ⟨rfl, ?_, fun c hc => ?_⟩
              · have := joinT_len z l
                rw [← top_eq]
                exact Nat.le_trans this hw
              · rcases joinT_mem hc with q | ⟨s, hs, q⟩
                · exact hd.2.2 c q
                · exact (e5 s hs).2 c q
            · exact h.elim
          · exact h.elim
        · exact h.elim
      | [], h, _ => exact h.elim
      | _ :: _ :: _, h, _ => exact h.elim
    | _ => exact h.elim
  | sindex => cases d <;> cases ds <;> exact h.elim
  | replace => cases d <;> cases ds <;> exact h.elim
theorem bmTy {X : Cx} {G : Gn} {U ads : List Addr} {H : Hp} {M : Mem} (hK : G.K = X.K) {b : Bm} {d : D} {x : Vv} (m : MemOk G U ads H M) (hd : Den G U ads H d x) (h : bmOk b d M = true) : tyV X.K (bmT b) x H := by
  cases hv : view M d with
  | lst ys =>
    obtain ⟨a, vs, e1, e2, e3⟩ := view_lst m hd hv
    subst e1
    unfold bmOk at h
    rw [hv] at h
    cases b with
    | append => exact .inl ⟨rfl, vs, by rw [← hK]; exact e2⟩
    | pop => exact .inl ⟨rfl, vs, by rw [← hK]; exact e2⟩
    | _ => cases h
  | str z =>
    obtain ⟨ex, _⟩ := view_str hd hv
    subst ex
    unfold bmOk at h
    rw [hv] at h
    cases b with
    | join => rfl
    | sindex => rfl
    | replace => rfl
    | _ => cases h
  | _ => unfold bmOk at h; rw [hv] at h; cases b <;> cases h
end Cy
end

section
set_option Elab.async false
set_option linter.all false
set_option maxRecDepth 100000
set_option maxHeartbeats 4000000
/-! Rules: calls whose exceptions may be taken at the slots; three comparisons in a chain; a test that is an if-expression. -/
namespace Cy
open PySem PySem.Spec PyProof.Rows L2

section
variable {X : Cx} {CX : CXT} {k : Nat} {f C : Addr} {fd : FuncData} {ps : List Str} {sp : Sp} {E : L2.St → XK} {x m : Str} {p pos apos : Pos} {e o : Expr} {es : List Expr} {ta : TE} {t : TA}
theorem pe_call0S (F : FnOk X.prog X.w X.K X.mg X.base CX k f fd ps sp) (room : Room k X.A) (gl : Gl X x) (own : X.mg x = some (.ref f)) (kp : PySem.W.keepIn X.K (.ref f) = true) (bd : Binds X.K fd ps []) (pass : ∀ σ, PassesAt CX X σ (E σ))
    (db : (x == ("__debug__" : Str)) = false) : PE X (.Call (.Name x p) [] [] pos) (tCallS sp E tNil) :=
  ⟨fun pins s σ H Q I h => wpAny_Call_Name_kw (ld_glob I gl own (PySem.W.callWith_K0 I.kIn kp (run_fnS (us := []) F room bd (pass σ) I .nil h)) db)⟩
def tMethS (C : Addr) (m : Str) (sp : Sp) (E : L2.St → XK) (ta : TE) (t : TA) : TE := fun σ H Q => ta σ H fun x H1 => ∃ a dx fs, x = .ref a ∧ H1 a = some (.ins C dx fs) ∧ fs.lookup m = none ∧ t σ H1 fun vs H2 => sp (x :: vs) H2 Q (E σ)
theorem pe_mS {pl : Sem Bool} (he : PE X o ta) (c : Cls X.K C) (hm : Meth X.K C m f) (F : FnOk X.prog X.w X.K X.mg X.base CX k f fd ps sp) (room : Room k X.A) (bd : Binds X.K fd ps []) (pass : ∀ σ, PassesAt CX X σ (E σ)) (ha : PA X (e :: es) t)
    (st : starEach (e :: es) X.env = (false, eval e X.env) :: starEach es X.env) (plain : (backTo pos (starEach es X.env)).any (·.1) = false)
    (how : eval (.Call (.Attribute o m apos) (e :: es) [] pos) X.env = (do
      let base ← eval o X.env
      standAt apos.atName
      let (g, self) ← holding [base] (getMethod base m pl)
      callWith pos g self (backTo pos (starEach (e :: es) X.env)) (backToKw pos (keywordEach [] X.env)))) : PE X (.Call (.Attribute o m apos) (e :: es) [] pos) (tMethS C m sp E ta t) := by
  refine ⟨fun pins s σ H Q I h => PySem.W.methodCall_KW (pl := pl) (thn (he.run pins s σ H _ I h) fun u s1 w => ?_) how⟩
  obtain ⟨x, H1, I1, rx, a, dx, fs, ex, ea, l, q⟩ := w
  subst ex
  cases (show u = Value.ref a from rx)
  refine getmeth_ok I1 ea c hm l (PySem.W.callWith_K (first := [.ref a]) (h₀ := X.base) I.ok.mod.kin hm.kp (thn (ha.run pos pins s1 σ H1 _ I1 q) fun us s2 w2 => ?_) st plain)
  obtain ⟨vs, H2, I2, r, q2⟩ := w2
  exact ⟨I2.kIn, run_fnS (us := .ref a :: us) (vs := .ref a :: vs) F room bd (pass σ) I2 (.cons rfl r) q2⟩
theorem pe_mS0 {pl : Sem Bool} (he : PE X o ta) (c : Cls X.K C) (hm : Meth X.K C m f) (F : FnOk X.prog X.w X.K X.mg X.base CX k f fd ps sp) (room : Room k X.A) (bd : Binds X.K fd ps []) (pass : ∀ σ, PassesAt CX X σ (E σ))
    (how : eval (.Call (.Attribute o m apos) [] [] pos) X.env = (do
      let base ← eval o X.env
      standAt apos.atName
      let (g, self) ← holding [base] (getMethod base m pl)
      callWith pos g self (backTo pos (starEach [] X.env)) (backToKw pos (keywordEach [] X.env)))) : PE X (.Call (.Attribute o m apos) [] [] pos) (tMethS C m sp E ta tNil) := by
  refine ⟨fun pins s σ H Q I h => PySem.W.methodCall_KW (pl := pl) (thn (he.run pins s σ H _ I h) fun u s1 w => ?_) how⟩
  obtain ⟨x, H1, I1, rx, a, dx, fs, ex, ea, l, q⟩ := w
  subst ex
  cases (show u = Value.ref a from rx)
  exact getmeth_ok I1 ea c hm l (PySem.W.callWith_K0 (first := [.ref a]) I1.kIn hm.kp (run_fnS (us := [.ref a]) (vs := [.ref a]) F room bd (pass σ) I1 (.cons rfl .nil) q))
/-- a class is called; what comes out of its __init__ does so at the slots σ -/
theorem run_mkS {pins : List (Addr × Obj)} {σ : L2.St} {H : Hp} {s : Shared} {Q : VK} {us : List Value} {vs : List V} (M : Mk X.K C f) (F : FnOk X.prog X.w X.K X.mg X.base CX k f fd ps sp) (room : Room (k + 1) X.A) (bd : Binds X.K fd ps [])
    (pass : PassesAt CX X σ (E σ)) (I : Inv X pins σ H s) (r : Vals vs us)
    (h : ∀ x dx, H x = none → H dx = none → dx ≠ x → sp (.ref x :: vs) (upd (upd H dx (.own x)) x (.ins C dx [])) (fun v H2 => v = .non ∧ Q (.ref x) H2) (E σ)) : wpAny (model X.prog X.w) X.A (call (.ref C) us) (EP X pins σ Q) X.xe s := by
  have want := h (s.heap.objs.size + 1) s.heap.objs.size (I.hok.fresh (Nat.le_succ _)) (I.hok.fresh (Nat.le_refl _)) (Nat.ne_of_lt (Nat.lt_succ_self _))
  have J := Inv.made (C := C) I
  have vals : Vals (V.ref (s.heap.objs.size + 1) :: vs) (Value.ref (s.heap.objs.size + 1) :: us) := .cons rfl r
  have len : (Value.ref (s.heap.objs.size + 1) :: us ++ []).length = ps.length := by
    have e := vals.length
    rw [F.len _ _ _ _ want] at e
    rw [List.append_nil]
    exact e.symm
  have bd2 := bd _ (Value.ref (s.heap.objs.size + 1) :: us) J.kIn len
  rw [List.append_nil] at bd2
  refine wpAny_call (make_map (f := f) I.kIn M.makes M.init (beq_iff_eq.mp M.fn) (codeAny_mono (F.run _ X.stack _ _ ⟨Value.ref (s.heap.objs.size + 1) :: us, []⟩ (Value.ref (s.heap.objs.size + 1) :: us) _ _ (E σ) (room.make C us [])
    (J.env0.make C us []) bd2 vals want) fun r s' got => ?_))
  cases r with
  | error e => exact pass pins _ _ e s' J got
  | ok fl =>
    cases fl with
    | ret u =>
      obtain ⟨v, H', J', rv, ev, q⟩ := J.after got
      subst ev
      exact ⟨rv, ⟨V.ref (s.heap.objs.size + 1), H', J', rfl, q⟩⟩
    | next => exact False.elim got
    | brk => exact False.elim got
    | cont => exact False.elim got
def tMkS (C : Addr) (sp : Sp) (E : L2.St → XK) (t : TA) : TE := fun σ H Q => t σ H fun vs H1 => ∀ x dx, H1 x = none → H1 dx = none → dx ≠ x → sp (.ref x :: vs) (upd (upd H1 dx (.own x)) x (.ins C dx [])) (fun v H2 => v = .non ∧ Q (.ref x) H2) (E σ)
theorem pe_mkS (M : Mk X.K C f) (F : FnOk X.prog X.w X.K X.mg X.base CX k f fd ps sp) (room : Room (k + 1) X.A) (gl : Gl X x) (own : X.mg x = some (.ref C)) (bd : Binds X.K fd ps []) (pass : ∀ σ, PassesAt CX X σ (E σ))
    (ha : PA X (e :: es) t) (db : (x == ("__debug__" : Str)) = false) (he : starEach (e :: es) X.env = (false, eval e X.env) :: starEach es X.env) (plain : (backTo pos (starEach es X.env)).any (·.1) = false) :
    PE X (.Call (.Name x p) (e :: es) [] pos) (tMkS C sp E t) :=
  ⟨fun pins s σ H Q I h => wpAny_Call_Name_kw (ld_glob I gl own (PySem.W.callWith_K (h₀ := X.base) I.ok.mod.kin M.kp (thn (ha.run pos pins s σ H _ I h) fun us s1 ⟨vs, H1, I1, r, q⟩ => ⟨I1.kIn, run_mkS M F room bd (pass σ) I1 r q⟩) he plain) db)⟩
theorem pe_mkS0 (M : Mk X.K C f) (F : FnOk X.prog X.w X.K X.mg X.base CX k f fd ps sp) (room : Room (k + 1) X.A) (gl : Gl X x) (own : X.mg x = some (.ref C)) (bd : Binds X.K fd ps []) (pass : ∀ σ, PassesAt CX X σ (E σ))
    (db : (x == ("__debug__" : Str)) = false) : PE X (.Call (.Name x p) [] [] pos) (tMkS C sp E tNil) :=
  ⟨fun pins s σ H Q I h => wpAny_Call_Name_kw (ld_glob I gl own (PySem.W.callWith_K0 I.kIn M.kp (run_mkS (us := []) M F room bd (pass σ) I .nil h)) db)⟩
end

/-! ### three in a chain -/
section
variable {X : Cx} {a b c d : Expr} {ta tb tc td : TE} {pos : Pos} {o p q : CmpOp} {r r' r'' : R2}
def tCh3 (r r' r'' : R2) (ta tb tc td : TE) : TE := fun σ H Q => ta σ H fun x H1 => tb σ H1 fun y H2 => r x y H2 fun z H3 => ∃ k, z = .bl k ∧
  (if k = true then tc σ H3 fun w H4 => r' y w H4 fun z' H5 => ∃ k', z' = .bl k' ∧ (if k' = true then td σ H5 fun w' H6 => r'' w w' H6 Q else Q (.bl false) H5) else Q (.bl false) H3)
theorem pe_ch3 (h1 : OpR X (compareOp o) r) (h2 : OpR X (compareOp p) r') (h3 : OpR X (compareOp q) r'') (ha : PE X a ta) (hb : PE X b tb) (hc : PE X c tc) (hd : PE X d td)
    (hm : lastMarks [o, p, q] [b, c, d] = false) : PE X (.Compare a [o, p, q] [b, c, d] pos) (tCh3 r r' r'' ta tb tc td) := by
  refine ⟨fun pins s σ H Q I h => Compare_chain (thn (ha.run pins s σ H _ I h) fun v s1 ⟨x, H1, I1, r1, q1⟩ => chain_link (thn (hb.run pins s1 σ H1 _ I1 q1) fun u s2 ⟨y, H2, I2, r2, q2⟩ =>
    thn (h1 pins s2 σ H2 x y v u _ I2 r1 r2 q2) fun _ s3 ⟨z, H3, I3, r3, k, e, q3⟩ => ?_)) hm⟩
  subst e
  cases r3
  refine wpAny_truthy_bool ?_
  cases k with
  | false => exact ite_ff ⟨.bl false, H3, I3, rfl, q3⟩
  | true =>
    refine ite_tt (chain_link (thn (hc.run pins s3 σ H3 _ I3 q3) fun w s4 ⟨y', H4, I4, r4, q4⟩ => thn (h2 pins s4 σ H4 y y' u w _ I4 r2 r4 q4) fun _ s5 ⟨z', H5, I5, r5, k', e', q5⟩ => ?_))
    subst e'
    cases r5
    refine wpAny_truthy_bool ?_
    cases k' with
    | false => exact ite_ff ⟨.bl false, H5, I5, rfl, q5⟩
    | true => exact ite_tt (chain_last (thn (hd.run pins s5 σ H5 _ I5 q5) fun w' s6 ⟨y2, H6, I6, r6, q6⟩ => h3 pins s6 σ H6 y' y2 w w' Q I6 r4 r6 q6))
theorem pt_ch3 (h1 : OpR X (compareOp o) r) (h2 : OpR X (compareOp p) r') (h3 : OpR X (compareOp q) r'') (ha : PE X a ta) (hb : PE X b tb) (hc : PE X c tc) (hd : PE X d td)
    (hm : lastMarks [o, p, q] [b, c, d] = false) : PT X (.Compare a [o, p, q] [b, c, d] pos) (tTest (tCh3 r r' r'' ta tb tc td)) := by
  refine ⟨fun pins s σ H Q I h => isTrue_chain (thn (ha.run pins s σ H _ I h) fun v s1 ⟨x, H1, I1, r1, q1⟩ => test_link (thn (hb.run pins s1 σ H1 _ I1 q1) fun u s2 ⟨y, H2, I2, r2, q2⟩ =>
    thn (h1 pins s2 σ H2 x y v u _ I2 r1 r2 q2) fun _ s3 ⟨z, H3, I3, r3, k, e, q3⟩ => ?_)) hm⟩
  subst e
  cases r3
  refine wpAny_truthy_bool ?_
  cases k with
  | false =>
    obtain ⟨_, e, q⟩ := q3
    cases e
    exact ite_ff ⟨H3, I3, q⟩
  | true =>
    refine ite_tt (test_link (thn (hc.run pins s3 σ H3 _ I3 q3) fun w s4 ⟨y', H4, I4, r4, q4⟩ => thn (h2 pins s4 σ H4 y y' u w _ I4 r2 r4 q4) fun _ s5 ⟨z', H5, I5, r5, k', e', q5⟩ => ?_))
    subst e'
    cases r5
    refine wpAny_truthy_bool ?_
    cases k' with
    | false =>
      obtain ⟨_, e, q⟩ := q5
      cases e
      exact ite_ff ⟨H5, I5, q⟩
    | true =>
      refine ite_tt (test_last (thn (hd.run pins s5 σ H5 _ I5 q5) fun w' s6 ⟨y2, H6, I6, r6, q6⟩ => thn (h3 pins s6 σ H6 y' y2 w w' _ I6 r4 r6 q6) fun _ s7 ⟨z2, H7, I7, r7, k2, e2, q7⟩ => ?_))
      subst e2
      cases r7
      exact wpAny_truthy_bool ⟨H7, I7, q7⟩
end
section
variable {X : Cx} {a b c : Expr} {ta tb tc : TT} {pos : Pos}
def tIfT (t ta tb : TT) : TT := fun σ H Q => t σ H fun c H1 => if c = true then ta σ H1 Q else tb σ H1 Q
theorem pt_if (hc : PT X c tc) (ha : PT X a ta) (hb : PT X b tb) : PT X (.IfExp c a b pos) (tIfT tc ta tb) := by
  refine ⟨fun pins s σ H Q I h => ?_⟩
  show wpAny _ _ (do if ← isTrue c X.env (eval c X.env) then isTrue a X.env (eval a X.env) else isTrue b X.env (eval b X.env)) _ _ s
  refine wpAny_bind (thn (hc.run pins s σ H _ I h) fun k s1 ⟨H1, I1, q⟩ => ?_)
  cases k with
  | true => exact ha.run pins s1 σ H1 Q I1 q
  | false => exact hb.run pins s1 σ H1 Q I1 q
end
end Cy
end

section
set_option Elab.async false
set_option linter.all false
set_option maxRecDepth 100000
set_option maxHeartbeats 4000000
/-! The small language against the linked text. -/
namespace Cy
open PySem PySem.Spec PyProof.Rows L2

def plainX : Expr → Bool
  | .Starred .. => false
  | .Set .. => false
  | .Slice .. => false
  | _ => true
def baseOk : Expr → Bool
  | .Call (.Name _ _) [] [] _ => false
  | _ => true
section
variable {e o : Expr} {es : List Expr} {env : PySem.Env} {pos apos : Pos} {name : Str}
theorem star_plain (h : plainX e = true) : starEach (e :: es) env = (false, eval e env) :: starEach es env := by
  cases e <;> first | rfl | cases h
theorem star_any : ∀ {es : List Expr}, es.all plainX = true → (backTo pos (starEach es env)).any (·.1) = false
  | [], _ => rfl
  | e :: es, h => by
    rw [List.all_cons, Bool.and_eq_true] at h
    rw [star_plain h.1]
    exact star_any h.2
theorem star_all : ∀ {es : List Expr}, es.all plainX = true → (backTo pos (starEach es env)).all (fun x => !x.1) = true
  | [], _ => rfl
  | e :: es, h => by
    rw [List.all_cons, Bool.and_eq_true] at h
    rw [star_plain h.1]
    exact star_all h.2
theorem base_ok (h : baseOk o = true) : attributeBase o name env (eval o env) = eval o env := by
  unfold attributeBase
  split
  · cases h
  · rfl
theorem few_ok (h : es.all plainX = true) (hl : Nat.blt es.length 29 = true) :
    ((backTo pos (starEach es env)).all (fun x => !x.1) && (backToKw pos (keywordEach [] env)).all (fun x => x.1.isSome)
      && decide (es.length + ([] : List Keyword).length + (if ([] : List Keyword).isEmpty then 0 else 1) < 30)) = true := by
  rw [star_all h]
  have := Nat.le_of_ble_eq_true hl
  have e : decide (es.length + ([] : List Keyword).length + (if ([] : List Keyword).isEmpty then 0 else 1) < 30) = true := decide_eq_true (by show es.length + 0 + 0 < 30; omega)
  rw [e]
  rfl
theorem form_ok (h : es.all plainX = true) (hl : Nat.blt es.length 29 = true) : methodCallForm (es.length + ([] : List Keyword).length) (backTo pos (starEach es env)) (backToKw pos (keywordEach [] env)) = true := few_ok h hl
theorem meth_how (hb : baseOk o = true) (hp : es.all plainX = true) (hl : Nat.blt es.length 29 = true) (line : (apos.endLine == pos.line) = true) :
    eval (.Call (.Attribute o name apos) es [] pos) env = (do
      let base ← eval o env
      standAt apos.atName
      let (g, self) ← holding [base] (getMethod base name (do return (← importBound o env).getD true))
      callWith pos g self (backTo pos (starEach es env)) (backToKw pos (keywordEach [] env))) := by
  show (do
    let ov ← attributeBase o name env (eval o env)
    standAt apos.atName
    methodCall o name apos pos env ov (es.length + ([] : List Keyword).length) (backTo pos (starEach es env)) (backToKw pos (keywordEach [] env))) = _
  rw [base_ok hb]
  unfold methodCall
  rw [form_ok hp hl]
  unfold calleeOf methodCallPos
  rw [line]
  rfl
theorem ix_plain (h : plainX e = true) : PlainIx e := fun o i => by
  cases e <;> first | rfl | cases h
theorem marks_plain {op : CmpOp} (h : plainX e = true) : behindInMarks op e = false := by
  cases e <;> first | rfl | cases h
theorem fold_plain (h : plainX e = true) : ∀ x, foldedSetIterable e env x = pure x := fun x => by
  cases e <;> first | rfl | cases h
end
end Cy
end

section
set_option Elab.async false
set_option linter.all false
set_option maxRecDepth 100000
set_option maxHeartbeats 4000000
/-! The checker. -/
namespace Cy
open PySem PySem.Spec PyProof.Rows L2

def okN (x : Str) : Bool := !(x == ("__debug__" : Str)) && !(x == ("__classdict__" : Str)) && !(x == ("__name__" : Str))
def visB (sc : Scope) (x : Str) : Bool := match sc.names.lookup x with
  | some .local => true
  | some .cell => true
  | some .free => true
  | _ => false
def glB (sc : Scope) (x : Str) : Bool := match sc.names.lookup x with
  | some .globalImplicit => true
  | _ => false
def biName : Bi → Str
  | .len => "len"
  | .abs => "abs"
  | .sum => "sum"
  | .max => "max"
  | .min => "min"
  | .all => "all"
  | .any => "any"
  | .int => "int"
  | .str => "str"
  | .list => "list"
  | .listL => "list"
  | .tuple => "tuple"
  | .sorted => "sorted"
def tyName : Ty → Str
  | .bool => "bool"
  | .int => "int"
  | .str => "str"
  | .tuple => "tuple"
  | .list => "list"
def tyV_ : Ty → String
  | .bool => "bool"
  | .int => "int"
  | .str => "str"
  | .tuple => "tuple"
  | .list => "list"
def bmName : Bm → Str
  | .append => "append"
  | .pop => "pop"
  | .join => "join"
  | .sindex => "index"
  | .replace => "replace"
def okC (s : List Nat) : Bool := Nat.ble s.length top && s.all fun c => Nat.blt c 1114112
def isNil : Ex → Bool
  | .nil => true
  | _ => false
def isYes : Ex → Bool
  | .cB true => true
  | _ => false
def chkKeys : List (List Nat) → List (Option Expr) → Bool
  | [], [] => true
  | k :: ks, some (.Constant (.str x) _ _) :: es => decide (x = sg k) && okC k && chkKeys ks es
  | _, _ => false

section
variable (nm : Nat → Str) (N : List Str)
def chkT1 (sc : Scope) (fn : Str → Bool) (i : Nat) (e : Expr) : Bool := match e with
  | .Name x _ => decide (N[i]? = some x) && (match sc.names.lookup x with
    | some .local => true
    | some .cell => fn x
    | _ => false)
  | _ => false
def chkTL (sc : Scope) (fn : Str → Bool) : List Nat → List Expr → Bool
  | [], [] => true
  | i :: is, e :: es => chkT1 N sc fn i e && chkTL sc fn is es
  | _, _ => false
def chkTg (sc : Scope) (fn : Str → Bool) (t : Tg) (e : Expr) : Bool := match t, e with
  | .nm i, e => chkT1 N sc fn i e
  | .tp is, .Tuple es _ _ => chkTL N sc fn is es
  | _, _ => false
def ownOf (t : Tg) : List (Str × Nat) := t.slots.map fun i => (N.getD i Str.empty, i)
mutual
def chkE : Ex → Scope → Expr → Bool
  | .var i, sc, a => match a with
    | .Name x _ => decide (N[i]? = some x) && visB sc x
    | _ => false
  | .cN, _, a => match a with
    | .Constant .none _ _ => true
    | _ => false
  | .cB b, _, a => match a with
    | .Constant (.bool c) _ _ => b == c
    | _ => false
  | .cI i, _, a => match a with
    | .Constant (.int j) _ _ => i == j
    | _ => false
  | .cS s, _, a => match a with
    | .Constant (.str x) _ _ => decide (x = sg s) && okC s
    | _ => false
  | .gl c, sc, a => match a with
    | .Name x _ => decide (x = nm c) && glB sc x
    | _ => false
  | .bin o a b, sc, e => match e with
    | .BinOp l op r _ => decide (op = opOf o) && chkE a sc l && chkE b sc r
    | _ => false
  | .neg a, sc, e => match e with
    | .UnaryOp .USub l _ => chkE a sc l
    | _ => false
  | .cmp o a b, sc, e => match e with
    | .Compare l [op] [r] _ => decide (op = copOf o) && chkE a sc l && chkE b sc r && plainX r
    | _ => false
  | .ch2 o p a b c, sc, e => match e with
    | .Compare l [op, pp] [r, q] _ => decide (op = copOf o) && decide (pp = copOf p) && chkE a sc l && chkE b sc r && chkE c sc q && plainX q
    | _ => false
  | .ch3 o p q a b c d, sc, e => match e with
    | .Compare l [oo, pp, qq] [r, t, u] _ => decide (oo = copOf o) && decide (pp = copOf p) && decide (qq = copOf q) && chkE a sc l && chkE b sc r && chkE c sc t && chkE d sc u && plainX u
    | _ => false
  | .and a b, sc, e => match e with
    | .BoolOp .And (x :: y :: r) pos => chkE a sc x && (match r with
      | [] => chkE b sc y
      | _ => chkE b sc (.BoolOp .And (y :: r) pos))
    | _ => false
  | .or a b, sc, e => match e with
    | .BoolOp .Or (x :: y :: r) pos => chkE a sc x && (match r with
      | [] => chkE b sc y
      | _ => chkE b sc (.BoolOp .Or (y :: r) pos))
    | _ => false
  | .not a, sc, e => match e with
    | .UnaryOp .Not l _ => chkE a sc l
    | _ => false
  | .ite c a b, sc, e => match e with
    | .IfExp t x y _ => chkE c sc t && chkE a sc x && chkE b sc y
    | _ => false
  | .tup es, sc, e => match e with
    | .Tuple xs _ _ => chkA es sc xs
    | _ => false
  | .lst _ es, sc, e => match e with
    | .List xs _ => chkA es sc xs
    | _ => false
  | .dsp ks es, sc, e => match e with
    | .Dict keys values _ => dspC ks && chkKeys ks keys && chkA es sc values && keys.length == values.length
    | _ => false
  | .idx a b, sc, e => match e with
    | .Subscript x y _ => chkE a sc x && chkE b sc y && plainX y
    | _ => false
  | .sl _ a lo hi, sc, e => match e with
    | .Subscript x (.Slice l h none _) _ => chkE a sc x && chkP lo sc l && chkP hi sc h
    | _ => false
  | .call f es, sc, e => match e with
    | .Call (.Name x _) args [] _ => decide (x = nm f) && glB sc x && chkA es sc args
    | _ => false
  | .pcall f es, sc, e => match e with
    | .Call (.Name x _) args [] _ => decide (x = nm f) && glB sc x && chkA es sc args
    | _ => false
  | .isa t a, sc, e => match e with
    | .Call (.Name x _) [l, .Name y _] [] _ => decide (x = ("isinstance" : Str)) && glB sc x && decide (y = tyName t) && glB sc y && chkE a sc l && plainX l
    | _ => false
  | .meth _ m o es, sc, e => match e with
    | .Call (.Attribute b x p) args [] q => decide (x = nm m) && chkE o sc b && baseOk b && chkA es sc args && Nat.blt args.length 29 && (p.endLine == q.line)
    | _ => false
  | .mk c es, sc, e => match e with
    | .Call (.Name x _) args [] _ => decide (x = nm c) && glB sc x && chkA es sc args
    | _ => false
  | .bi b es, sc, e => match e with
    | .Call (.Name x _) args [] _ => decide (x = biName b) && glB sc x && chkA es sc args && !args.isEmpty
    | _ => false
  | .bm b o es, sc, e => match e with
    | .Call (.Attribute c x p) args [] q => decide (x = bmName b) && chkE o sc c && baseOk c && chkA es sc args && Nat.blt args.length 29 && (p.endLine == q.line)
    | _ => false
  | .fld f o, sc, e => match e with
    | .Attribute b x _ => decide (x = nm f) && chkE o sc b && baseOk b
    | _ => false
  | .comp _ t it c e, sc, a => match a with
    | .ListComp elt [⟨tg, iter, ifs, k⟩] scope _ => decide (k = 0) && chkI it sc iter && blkC N sc scope (ownOf N t) && chkTg N (relS scope sc) (fun x => scope.names.lookup x == some .cell) t tg &&
        (match ifs with
        | [] => isYes c
        | [cond] => chkE c (relS scope sc) cond
        | _ => false) && chkE e (relS scope sc) elt
    | _ => false
  | _, _, _ => false
def chkA : Ex → Scope → List Expr → Bool
  | .nil, _, es => es.isEmpty
  | .cons a as, sc, es => match es with
    | e :: es => plainX e && chkE a sc e && chkA as sc es
    | [] => false
  | _, _, _ => false
def chkP : Ex → Scope → Option Expr → Bool
  | .nil, _, e => e.isNone
  | .cons a r, sc, e => match e with
    | some e => isNil r && chkE a sc e
    | none => false
  | _, _, _ => false
def chkI : Ex → Scope → Expr → Bool
  | .src a, sc, e => plainX e && chkE a sc e
  | .srcS a, sc, e => plainX e && chkE a sc e
  | .rng1 a, sc, e => match e with
    | .Call (.Name x _) [l] [] _ => decide (x = ("range" : Str)) && glB sc x && plainX l && chkE a sc l
    | _ => false
  | .rng2 a b, sc, e => match e with
    | .Call (.Name x _) [l, r] [] _ => decide (x = ("range" : Str)) && glB sc x && plainX l && chkE a sc l && plainX r && chkE b sc r
    | _ => false
  | _, _, _ => false
end
end
end Cy
end

section
set_option Elab.async false
set_option linter.all false
set_option maxRecDepth 100000
set_option maxHeartbeats 4000000
/-! Readings of what is gone through, of chains, of loops. -/
namespace Cy
open PySem PySem.Spec PyProof.Rows L2

/-- the promise of an own function -/
def spF (G : Gn) (call : List D → Mem → Res D) : Sp := fun vs H Q E => ∃ U ads M ds, MemOk G U ads H M ∧ DenL G U ads H ds vs ∧ Wk G (Den G) U ads H (call ds M) Q E
abbrev FnG (G : Gn) (X : Cx) (k : Nat) (a : Addr) (call : List D → Mem → Res D) : Prop :=
  ∃ fd ps, FnOk X.prog X.w X.K X.mg X.base (L2.CX X.prog X.w) k a fd ps (spF G call) ∧ Binds X.K fd ps []

structure Gx (G : Gn) (C : Cn) (X : Cx) : Prop where
  K : G.K = X.K
  eW : G.w = X.w
  nd : X.N.Nodup
  calm : X.calm = true
  un : X.A.units + 65 < cLine
  okn : ∀ (i : Nat) (x : Str), X.N[i]? = some x → okN x = true
  oknm : ∀ i, okN (G.nm i) = true
  con : ∀ x d, C.con x = some d → ∃ v u, X.mg (G.nm x) = some u ∧ RelV v u ∧ ∀ U ads H, Den G U ads H d v
  bi : ∀ b, X.mg (biName b) = none
  rng : X.mg "range" = none
  isi : X.mg "isinstance" = none
  ty : ∀ t, X.mg (tyName t) = none
  fn : ∀ f, C.has f = true → ∃ k a, FnG G X k a (C.call f) ∧ Room k X.A ∧ PySem.W.keepIn X.K (.ref a) = true ∧ X.mg (G.nm f) = some (.ref a)
  meth : ∀ c m f, C.meth c m = some f → ∃ k a, FnG G X k a (C.call f) ∧ Room k X.A ∧ Cls X.K (G.cl c) ∧ Meth X.K (G.cl c) (G.nm m) a
  init : ∀ c f, C.init c = some f → ∃ k a, FnG G X k a (C.call f) ∧ Room (k + 1) X.A ∧ Mk X.K (G.cl c) a ∧ X.mg (G.nm c) = some (.ref (G.cl c))
  att : ∀ c f, C.att c f = true → Cls X.K (G.cl c) ∧ NoAttr X.K (G.cl c) (G.nm f)
abbrev Pas (X : Cx) (W : WX) : Prop := ∀ σ, PassesAt (L2.CX X.prog X.w) X σ (WE W σ)
def wNo : WX := fun _ _ _ _ => False
section
variable {G : Gn} {C : Cn} {X : Cx}
theorem Gx.blk (g : Gx G C X) {s : Shared} {H : Hp} {scope : Scope} {cenv : PySem.Env} {fp : List Addr} : Gx G C (X.blk s H scope cenv fp) :=
  ⟨g.K, g.eW, g.nd, g.calm, g.un, g.okn, g.oknm, g.con, g.bi, g.rng, g.isi, g.ty, g.fn, g.meth, g.init, g.att⟩
theorem pas_blk {s : Shared} {H : Hp} {scope : Scope} {cenv : PySem.Env} {fp : List Addr} : Pas (X.blk s H scope cenv fp) wNo := fun σ pins H s e s' I c => by
  obtain ⟨a, B, H', cls, d, _, _, _, _, _, _, _, f⟩ := c
  exact f.elim
theorem okN_db {x : Str} (h : okN x = true) : (x == ("__debug__" : Str)) = false ∧ (x == ("__classdict__" : Str)) = false ∧ x ≠ "__name__" := by
  unfold okN at h
  rw [Bool.and_eq_true, Bool.and_eq_true] at h
  obtain ⟨⟨h1, h2⟩, h3⟩ := h
  refine ⟨by simpa using h1, by simpa using h2, fun e => ?_⟩
  subst e
  simp at h3
theorem vis_of {sc : Scope} {x : Str} (h : visB sc x = true) : Vis sc x := by
  unfold visB at h
  unfold Vis
  split at h
  · rename_i e; exact .inl e
  · rename_i e; exact .inr (.inl e)
  · rename_i e; exact .inr (.inr e)
  · cases h
theorem gl_of {X : Cx} {x : Str} (h : glB X.env.scope x = true) : Gl X x := by
  unfold glB at h
  split at h
  · rename_i e; exact e
  · cases h
theorem okS_of {s : List Nat} (h : okC s = true) : okS s := by
  unfold okC at h
  rw [Bool.and_eq_true] at h
  refine ⟨by rw [← top_eq]; exact Nat.le_of_ble_eq_true h.1, fun c hc => ?_⟩
  exact Nat.le_of_ble_eq_true (List.all_eq_true.mp h.2 c hc)
end

/-! ### what is gone through -/
/-- J goes through s -/
def SrcD (G : Gn) (U ads : List Addr) (H : Hp) (s : Src) (J : It) : Prop := match s with
  | .fix lo n => J = Itr lo n
  | .chr z => J = Its (sg z) ∧ okS z
  | .live (.tup xs) => ∃ a, Den G U ads H (.tup xs) (.ref a) ∧ J = Itt G.K a
  | .live (.lst xs) => ∃ a, Den G U ads H (.lst xs) (.ref a) ∧ J = Itl G.K a
  | .live (.obj l) => ∃ a, Den G U ads H (.obj l) (.ref a) ∧ J = Itl G.K a
  | _ => False
def tI (G : Gn) (C : Cn) (W : WX) (e : Ex) : TI := fun σ H R => ∃ U ads ρ M, Rel G U ads H ρ M σ ∧ Wk G (SrcD G) U ads H (evI C e ρ M) R (WE W σ)
section
variable {G : Gn} {U ads ext : List Addr} {H H' : Hp} {M M' : Mem} {s : Src} {J : It}
theorem SrcD.stp (h : SrcD G U ads H s J) (m : MemOk G U ads H M) (st : Stp G U ads H ext M' H') : SrcD G (U ++ ext) (ads ++ ext) H' s J := by
  cases s with
  | fix lo n => exact h
  | chr z => exact h
  | live d =>
    cases d with
    | tup xs => obtain ⟨a, h1, h2⟩ := h; exact ⟨a, h1.stp m st, h2⟩
    | lst xs => obtain ⟨a, h1, h2⟩ := h; exact ⟨a, h1.stp m st, h2⟩
    | obj l => obtain ⟨a, h1, h2⟩ := h; exact ⟨a, h1.stp m st, h2⟩
    | _ => exact h.elim
/-- the list, the tuple that is gone through, as it stands -/
theorem SrcD.seen {d : D} {xs : List D} (h : SrcD G U ads H (.live d) J) (m : MemOk G U ads H M) (e : items (view M d) = some xs) : ∃ a vs, DenL G U ads H xs vs ∧ ((SqL G.K H a vs ∧ (∀ ws, SqL G.K H a ws → ws = vs → True) ∧ J = Itl G.K a) ∨ (SqT G.K H a vs ∧ J = Itt G.K a)) := by
  cases d with
  | tup ys =>
    obtain ⟨a, h1, h2⟩ := h
    cases e
    obtain ⟨b, vs, e1, e2, e3⟩ := h1
    cases e1
    exact ⟨a, vs, e3, .inr ⟨e2, h2⟩⟩
  | lst ys =>
    obtain ⟨a, h1, h2⟩ := h
    cases e
    obtain ⟨b, vs, e1, e2, e3⟩ := h1
    cases e1
    exact ⟨a, vs, e3, .inl ⟨KLs.sq e2, fun _ _ _ => trivial, h2⟩⟩
  | obj l =>
    obtain ⟨a, h1, h2⟩ := h
    cases hv : view M (.obj l) with
    | lst ys =>
      rw [hv] at e
      cases e
      obtain ⟨b, vs, e1, e2, e3⟩ := view_lst m h1 hv
      cases e1
      exact ⟨a, vs, e3, .inl ⟨e2, fun _ _ _ => trivial, h2⟩⟩
    | tup ys =>
      exact nomatch view_eq hv (fun _ z => by cases z) (fun _ z => by cases z)
    | _ => rw [hv] at e; cases e
  | _ => exact h.elim
theorem SrcD.go {i : Nat} {x : D} (h : SrcD G U ads H s J) (m : MemOk G U ads H M) (e : s.at_ M i = some x) : J.go i H := by
  cases s with
  | fix lo n =>
    cases (show J = Itr lo n from h)
    have e : (if Nat.blt i n then some (D.int (lo + (i : Int))) else none) = some x := e
    by_cases q : Nat.blt i n = true
    · exact Nat.le_of_ble_eq_true q
    · simp only [if_neg q] at e; cases e
  | chr z =>
    obtain ⟨h, _⟩ := h
    subst h
    have e : (z[i]?).map (fun c => D.str [c]) = some x := e
    obtain ⟨c, hc, _⟩ := Option.map_eq_some_iff.mp e
    show i < (sg z).cps.size
    have := (List.getElem?_eq_some_iff.mp hc).1
    rw [show (sg z).cps.size = z.length from sg_len z]
    exact this
  | live d =>
    have e : ((items (view M d)).bind fun xs => xs[i]?) = some x := e
    cases hx : items (view M d) with
    | none => rw [hx] at e; cases e
    | some xs =>
      rw [hx] at e
      obtain ⟨a, vs, dl, q⟩ := h.seen m hx
      obtain ⟨v, hv, _⟩ := dl.get (show xs[i]? = some x from e)
      rcases q with ⟨q1, _, q2⟩ | ⟨q1, q2⟩
      · subst q2; exact ⟨vs, v, q1, hv⟩
      · subst q2; exact ⟨vs, v, q1, hv⟩
theorem SrcD.yld {i : Nat} {x : D} {v : Vv} (h : SrcD G U ads H s J) (m : MemOk G U ads H M) (e : s.at_ M i = some x) (y : J.yld i H v H') : H' = H ∧ Den G U ads H x v := by
  cases s with
  | fix lo n =>
    cases (show J = Itr lo n from h)
    have e : (if Nat.blt i n then some (D.int (lo + (i : Int))) else none) = some x := e
    by_cases q : Nat.blt i n = true
    · simp only [if_pos q] at e
      cases e
      exact ⟨y.1, y.2⟩
    · simp only [if_neg q] at e; cases e
  | chr z =>
    obtain ⟨h, kz⟩ := h
    subst h
    have e : (z[i]?).map (fun c => D.str [c]) = some x := e
    obtain ⟨c, hc, ec⟩ := Option.map_eq_some_iff.mp e
    subst ec
    obtain ⟨y1, c', y2, y3⟩ := y
    have e2 : (sg z).cps[i]? = some c := by
      show z.toArray[i]? = some c
      simpa using hc
    rw [e2] at y2
    cases y2
    refine ⟨y1, y3, ?_, fun c' hc' => ?_⟩
    · show 1 ≤ sizeLine
      rw [sizeLine_eq]; decide
    · rw [List.mem_singleton.mp hc']
      exact kz.2 c (List.mem_of_getElem? hc)
  | live d =>
    have e : ((items (view M d)).bind fun xs => xs[i]?) = some x := e
    cases hx : items (view M d) with
    | none => rw [hx] at e; cases e
    | some xs =>
      rw [hx] at e
      obtain ⟨a, vs, dl, q⟩ := h.seen m hx
      obtain ⟨w, hw, dw⟩ := dl.get (show xs[i]? = some x from e)
      rcases q with ⟨q1, _, q2⟩ | ⟨q1, q2⟩
      · subst q2
        have z := y.2 vs q1
        rw [hw] at z
        cases z
        exact ⟨y.1, dw⟩
      · subst q2
        have z := y.2 vs q1
        rw [hw] at z
        cases z
        exact ⟨y.1, dw⟩
theorem SrcD.stop {i k : Nat} (h : SrcD G U ads H s J) (m : MemOk G U ads H M) (e : s.size M = some k) (hk : k ≤ i) : J.stop i H := by
  cases s with
  | fix lo n =>
    cases (show J = Itr lo n from h)
    cases e
    exact hk
  | chr z =>
    obtain ⟨h, _⟩ := h
    subst h
    cases e
    show (sg z).cps.size ≤ i
    rw [show (sg z).cps.size = z.length from sg_len z]
    exact hk
  | live d =>
    have e : (items (view M d)).map List.length = some k := e
    cases hx : items (view M d) with
    | none => rw [hx] at e; cases e
    | some xs =>
      rw [hx] at e
      cases e
      obtain ⟨a, vs, dl, q⟩ := h.seen m hx
      have hl := dl.length
      rcases q with ⟨q1, _, q2⟩ | ⟨q1, q2⟩
      · subst q2; exact ⟨vs, q1, by omega⟩
      · subst q2; exact ⟨vs, q1, by omega⟩
end
/-- a list or a tuple, whichever it is -/
def iSeq (K : PySem.W.Frag) (t : TE) : TI := fun σ H R => t σ H fun x H1 => ∃ a, x = .ref a ∧ (((∃ xs, SqL K H1 a xs) ∧ R (Itl K a) H1) ∨ ((∃ xs, SqT K H1 a xs) ∧ R (Itt K a) H1))
theorem pi_seq {X : Cx} {tg l : Expr} {t : TE} (hl : PE X l t) : PI X tg l (iSeq X.K t) := by
  refine ⟨fun pins s σ H R I h => thn (hl.run pins s σ H _ I h) fun v s1 w => ?_⟩
  obtain ⟨x, H1, J, r, a, e, q⟩ := w
  subst e
  cases r
  have new := fun b (hb : b ∈ [s1.heap.objs.size]) => show FpOk X pins H1 b from by
    rw [List.mem_singleton.mp hb]
    exact J.fpOk (Nat.le_refl _) (J.hok.fresh (Nat.le_refl _))
  rcases q with ⟨⟨xs, hq⟩, q⟩ | ⟨⟨xs, hq⟩, q⟩
  · obtain ⟨its, rv, p, hz⟩ := J.list hq
    exact wpAny_pyIter_list p.isList ⟨s1.heap.objs.size, [s1.heap.objs.size], _, _, H1, rfl, J.kept (t' := s1.toks) (fun b o e => Heap.get?_push_of_some _ e), turn_list a _, ⟨_, Heap.get?_push_size _ rfl, rfl, rfl⟩, new, q⟩
  · obtain ⟨its, rv, p, hz⟩ := J.tuple hq
    exact wpAny_pyIter_tuple (show s1.heap.IsTuple a its.toArray from p) ⟨s1.heap.objs.size, [s1.heap.objs.size], _, _, H1, rfl, J.kept (t' := s1.toks) (fun b o e => Heap.get?_push_of_some _ e), turn_tuple a _, ⟨_, Heap.get?_push_size _ rfl, rfl, rfl⟩, new, q⟩
end Cy
end

section
set_option Elab.async false
set_option linter.all false
set_option maxRecDepth 100000
set_option maxHeartbeats 4000000
/-! Targets; the loop of a comprehension. -/
namespace Cy
open PySem PySem.Spec PyProof.Rows L2

/-! ### targets -/
def gNs : List Nat → TGs
  | [] => gNil
  | i :: is => gCons (gName i) (gNs is)
def gT (K : PySem.W.Frag) (t : Tg) : TG := match t with
  | .nm i => gName i
  | .tp is => gTup K is.length (gNs is)
section
variable {X : Cx}
theorem pg1 {i : Nat} {e : Expr} (nd : X.N.Nodup) (h : chkT1 X.N X.env.scope X.fn i e = true) : PG X e (gName i) := by
  unfold chkT1 at h
  split at h
  · rename_i x p
    rw [Bool.and_eq_true] at h
    have h1 := of_decide_eq_true h.1
    have h2 := h.2
    split at h2
    · rename_i q; exact pg_name nd h1 (.inl q) (.inr q)
    · rename_i q; exact pg_name nd h1 (.inr q) (.inl h2)
    · cases h2
  · cases h
theorem names_len {fn : Str → Bool} {N : List Str} {sc : Scope} {env : PySem.Env} : ∀ {is : List Nat} {es : List Expr}, chkTL N sc fn is es = true → (assignEach es env).length = is.length ∧ (assignEach es env).findIdx? (·.1) = none
  | [], [], _ => ⟨rfl, rfl⟩
  | i :: is, e :: es, h => by
    have h : (chkT1 N sc fn i e && chkTL N sc fn is es) = true := h
    rw [Bool.and_eq_true] at h
    have ih := names_len (env := env) h.2
    have h1 := h.1
    unfold chkT1 at h1
    split at h1
    · rename_i x p
      refine ⟨?_, ?_⟩
      · show (assignEach es env).length + 1 = _
        rw [ih.1]; rfl
      · show List.findIdx? (·.1) ((false, _) :: assignEach es env) = none
        rw [List.findIdx?_cons]
        simp [ih.2]
    · cases h1
  | [], _ :: _, h => by cases h
  | _ :: _, [], h => by cases h
theorem pgN (nd : X.N.Nodup) : ∀ {is : List Nat} {es : List Expr}, chkTL X.N X.env.scope X.fn is es = true → PGs X es (gNs is)
  | [], [], _ => pgs_nil
  | i :: is, e :: es, h => by
    have h : (chkT1 X.N X.env.scope X.fn i e && chkTL X.N X.env.scope X.fn is es) = true := h
    rw [Bool.and_eq_true] at h
    refine pgs_cons (pg1 nd h.1) (pgN nd h.2) ?_
    have h1 := h.1
    unfold chkT1 at h1
    split at h1
    · rfl
    · cases h1
  | [], _ :: _, h => by cases h
  | _ :: _, [], h => by cases h
theorem pgT {t : Tg} {e : Expr} (nd : X.N.Nodup) (hc : X.calm = true) (h : chkTg X.N X.env.scope X.fn t e = true) : PG X e (gT X.K t) := by
  unfold chkTg at h
  split at h
  · exact pg1 nd h
  · rename_i is es k p
    exact pg_tup hc (pgN nd h) (names_len h).1 (names_len h).2
  · cases h
end
section
variable {G : Gn} {U ads : List Addr} {H : Hp} {M : Mem} {ρ ρ' : Env} {σ : L2.St}
theorem wipe_get (σ : L2.St) (i : Nat) : ∀ vs : List Nat, (wipe σ vs)[i]? = if i ∈ vs then (σ[i]?).map (fun _ => none) else σ[i]?
  | [] => by simp [wipe]
  | v :: vs => by
    have ih := wipe_get σ i vs
    show ((wipe σ vs).set v none)[i]? = _
    by_cases h : v = i
    · subst h
      rw [List.getElem?_set]
      rw [if_pos rfl, if_pos List.mem_cons_self]
      by_cases hl : v < (wipe σ vs).length
      · rw [if_pos hl]
        rw [wipe_length] at hl
        rw [List.getElem?_eq_getElem hl]
        rfl
      · rw [if_neg hl]
        rw [wipe_length] at hl
        rw [List.getElem?_eq_none (by omega)]
        rfl
    · rw [List.getElem?_set_ne h, ih]
      have : (i ∈ v :: vs) = (i ∈ vs) := by
        rw [List.mem_cons, eq_iff_iff]
        exact ⟨fun z => z.elim (fun e => absurd e.symm h) id, .inr⟩
      simp only [this]
theorem wipe_set {i : Nat} {x : Option Vv} {vs : List Nat} (h : i ∈ vs) : wipe (σ.set i x) vs = wipe σ vs := by
  refine List.ext_getElem? fun j => ?_
  rw [wipe_get, wipe_get]
  by_cases hj : j ∈ vs
  · rw [if_pos hj, if_pos hj]
    by_cases e : i = j
    · subst e
      rw [List.getElem?_set, if_pos rfl]
      by_cases hl : i < σ.length
      · rw [if_pos hl, List.getElem?_eq_getElem hl]; rfl
      · rw [if_neg hl, List.getElem?_eq_none (by omega)]
    · rw [List.getElem?_set_ne e]
  · rw [if_neg hj, if_neg hj, List.getElem?_set_ne (fun e => hj (by rw [← e]; exact h))]
theorem wipe_wipe (vs : List Nat) : wipe (wipe σ vs) vs = wipe σ vs := by
  refine List.ext_getElem? fun j => ?_
  rw [wipe_get, wipe_get]
  by_cases hj : j ∈ vs
  · rw [if_pos hj, if_pos hj, Option.map_map]; rfl
  · rw [if_neg hj, if_neg hj]
theorem Rel.none_ (r : Rel G U ads H ρ M σ) (i : Nat) : Rel G U ads H (ρ.set i none) M (σ.set i none) := by
  refine ⟨r.mem, by simpa using r.len, fun j e q => ?_⟩
  by_cases hj : i = j
  · subst hj
    by_cases hl : i < ρ.length
    · rw [List.getElem?_set_self hl] at q; cases q
    · rw [List.getElem?_eq_none (by simpa using hl)] at q; cases q
  · rw [List.getElem?_set_ne hj] at q
    rw [List.getElem?_set_ne hj]
    exact r.at_ j e q
theorem Rel.wipe (r : Rel G U ads H ρ M σ) : ∀ vs : List Nat, Rel G U ads H (wipeR ρ vs) M (L2.wipe σ vs)
  | [] => r
  | v :: vs => (Rel.wipe r vs).none_ v
theorem gNs_ok : ∀ {is : List Nat} {ds : List D} {vs : List Vv} {ρ : Env} {σ : L2.St} {Q : L2.St → Hp → Prop}, Rel G U ads H ρ M σ → DenL G U ads H ds vs → is.length = ds.length →
    (∀ σ', Rel G U ads H (setAll is ds ρ) M σ' → (∀ ws, (∀ i ∈ is, i ∈ ws) → L2.wipe σ' ws = L2.wipe σ ws) → Q σ' H) → gNs is vs σ H Q
  | [], [], vs, ρ, σ, Q, r, d, _, k => ⟨d, k σ r fun _ _ => rfl⟩
  | i :: is, x :: ds, vs, ρ, σ, Q, r, d, hl, k => by
    obtain ⟨v, w, e, d1, d2⟩ := d
    refine ⟨v, w, e, gNs_ok (r.set i d1) d2 (by simpa using hl) fun σ' r' hw => k σ' r' fun ws hs => ?_⟩
    rw [hw ws fun j hj => hs j (List.mem_cons_of_mem _ hj), wipe_set (hs i List.mem_cons_self)]
  | [], _ :: _, _, _, _, _, _, _, hl, _ => by simp at hl
  | _ :: _, [], _, _, _, _, _, _, hl, _ => by simp at hl
theorem gT_ok {t : Tg} {d : D} {v : Vv} {Q : L2.St → Hp → Prop} (r : Rel G U ads H ρ M σ) (hd : Den G U ads H d v) (e : t.to d ρ = some ρ')
    (k : ∀ σ', Rel G U ads H ρ' M σ' → L2.wipe σ' t.slots = L2.wipe σ t.slots → Q σ' H) : gT G.K t v σ H Q := by
  cases t with
  | nm i =>
    cases e
    exact k _ (r.set i hd) (wipe_set List.mem_cons_self)
  | tp is =>
    cases d with
    | tup xs =>
      have e : (if is.length == xs.length then some (setAll is xs ρ) else none) = some ρ' := e
      split at e
      · rename_i hl
        have hl : is.length = xs.length := by simpa using hl
        cases e
        obtain ⟨a, vs, e1, e2, e3⟩ := hd
        exact ⟨a, vs, e1, e2, by rw [hl, e3.length], gNs_ok r e3 hl fun σ' r' hw => k σ' r' (hw _ fun _ z => z)⟩
      · cases e
    | _ => cases e
end
end Cy
end

section
set_option Elab.async false
set_option linter.all false
set_option maxRecDepth 100000
set_option maxHeartbeats 4000000
/-! The loop of a comprehension. -/
namespace Cy
open PySem PySem.Spec PyProof.Rows L2

section
variable {G : Gn} {U U' ads ads' ext e1 e2 : List Addr} {H H' : Hp} {M M' : Mem}
theorem Kp.of (m : MemOk G U ads H M) (new : ∀ a ∈ e1, H a = none) (keep : ∀ a o, H a = some o → a ∉ ads → (∀ ps, o ≠ .tbl ps) → H' a = some o) : Kp G U ads H (U ++ e1) (ads ++ e2) H' where
  tup := fun a xs h => by
    have lab : a ∈ ads → ∀ o, H a = some o → (∃ ys, o = .tup ys) ∨ (∃ u ys, o = .frz u (.tup ys)) → False := fun hm o e w => by
      obtain ⟨l, hl, q⟩ := List.getElem_of_mem hm
      have hl2 : l < M.length := by rw [← m.len]; exact hl
      have z := m.at_ l _ a (List.getElem?_eq_getElem hl2) (by rw [List.getElem?_eq_getElem hl, q])
      cases ho : M[l] with
      | lst ys => rw [ho] at z; obtain ⟨vs, z, _⟩ := z; rw [e] at z; cases z; rcases w with ⟨_, w⟩ | ⟨_, _, w⟩ <;> cases w
      | ins c fs => rw [ho] at z; obtain ⟨dx, gs, z, _⟩ := z; rw [e] at z; cases z; rcases w with ⟨_, w⟩ | ⟨_, _, w⟩ <;> cases w
      | dct ks vs => rw [ho] at z; obtain ⟨kvs, z, _⟩ := z; rw [e] at z; cases z; rcases w with ⟨_, w⟩ | ⟨_, _, w⟩ <;> cases w
    rcases h with (h | ⟨o, h⟩) | h
    · exact .inl (.inl (keep a _ h (fun z => lab z _ h (.inl ⟨_, rfl⟩)) (fun _ z => by cases z)))
    · exact .inl (.inr ⟨o, keep a _ h (fun z => lab z _ h (.inr ⟨_, _, rfl⟩)) (fun _ z => by cases z)⟩)
    · exact .inr h
  lst := fun a xs h n => by
    have na : a ∉ ads := fun z => n (m.sub a z)
    refine ⟨?_, fun z => ?_⟩
    · rcases h with h | ⟨o, h⟩
      · exact .inl (keep a _ h na (fun _ z => by cases z))
      · exact .inr ⟨o, keep a _ h na (fun _ z => by cases z)⟩
    · rcases List.mem_append.mp z with z | z
      · exact n z
      · have q := new a z
        rcases h with h | ⟨o, h⟩ <;> (rw [q] at h; cases h)
  dct := fun a kvs h n => by
    have na : a ∉ ads := fun z => n (m.sub a z)
    refine ⟨keep a _ h na (fun _ z => by cases z), fun z => ?_⟩
    rcases List.mem_append.mp z with z | z
    · exact n z
    · have q := new a z
      rw [q] at h; cases h
  lab := fun l a h => by
    rw [List.getElem?_append_left (List.getElem?_eq_some_iff.mp h).1]
    exact h
/-- fewer are watched -/
theorem Kp.less (sub : ∀ a, a ∈ U' → a ∈ U) : Kp G U ads H U' (ads ++ ext) H where
  tup := fun _ _ h => h
  lst := fun _ _ h n => ⟨h, fun z => n (sub _ z)⟩
  dct := fun _ _ h n => ⟨h, fun z => n (sub _ z)⟩
  lab := fun l a h => by
    rw [List.getElem?_append_left (List.getElem?_eq_some_iff.mp h).1]
    exact h
theorem ObjD.kp (k : Kp G U ads H U' ads' H') {o : MO} {a : Addr} (same : H' a = H a) (q : ObjD G U ads H o a) : ObjD G U' ads' H' o a := by
  cases o with
  | lst xs => obtain ⟨vs, q1, q2⟩ := q; exact ⟨vs, same.trans q1, q2.kp k⟩
  | ins c fs => obtain ⟨dx, gs, q1, q2⟩ := q; exact ⟨dx, gs, same.trans q1, Flds.kp k _ _ q2⟩
  | dct ks ds => obtain ⟨kvs, q1, q2⟩ := q; exact ⟨kvs, same.trans q1, q2.kp k⟩
theorem MemOk.kp (m : MemOk G U ads H M) (k : Kp G U ads H U' ads H') (same : ∀ a ∈ ads, H' a = H a) (sub : ∀ a ∈ ads, a ∈ U') (trk : ∀ a ∈ U', H' a ≠ none) : MemOk G U' ads H' M :=
  ⟨m.len, m.nd, sub, trk, fun l o a h1 h2 => (m.at_ l o a h1 h2).kp k (same a (List.mem_of_getElem? h2))⟩

/-- behind H0 a new object o stands at D, and D is watched -/
structure LO (G : Gn) (U ads : List Addr) (H0 : Hp) (D : Addr) (ext : List Addr) (M : Mem) (H : Hp) (o : HO) : Prop where
  new : ∀ a ∈ ext, H0 a = none
  keep : ∀ a o, H0 a = some o → a ∉ ads → (∀ ps, o ≠ .tbl ps) → H a = some o
  dom : ∀ a, H0 a ≠ none → H a ≠ none
  mem : MemOk G (U ++ D :: ext) (ads ++ ext) H M
  cell : H D = some o
  out : D ∉ ads ++ ext
/-- the state of the loop: D holds what is gathered -/
structure LS (G : Gn) (U ads : List Addr) (H0 : Hp) (D : Addr) (ext : List Addr) (M : Mem) (H : Hp) (acc : List Cy.D) (vs : List Vv) : Prop extends LO G U ads H0 D ext M H (.lst vs) where
  den : DenL G (U ++ D :: ext) (ads ++ ext) H acc vs
variable {H0 : Hp} {M0 : Mem} {D : Addr} {acc : List Cy.D} {vs : List Vv} {o o' : HO}
theorem LO.kp (L : LO G U ads H0 D ext M H o) (m : MemOk G U ads H0 M0) (hD : H0 D = none) : Kp G U ads H0 (U ++ D :: ext) (ads ++ ext) H :=
  Kp.of m (fun a ha => by
    rcases List.mem_cons.mp ha with e | ha
    · rw [e]; exact hD
    · exact L.new a ha) L.keep
theorem LO.begin_ (m : MemOk G U ads H0 M0) (hD : H0 D = none) : LO G U ads H0 D [] M0 (upd H0 D o) o where
  new := fun _ h => by cases h
  keep := fun a u h _ _ => (upd_ne (ne_of_none h hD)).trans h
  dom := fun a h => upd_dom a h
  mem := by
    rw [List.append_nil]
    have k : Kp G U ads H0 (U ++ [D]) (ads ++ []) (upd H0 D o) := Kp.of m (fun a ha => by rw [List.mem_singleton.mp ha]; exact hD) fun a u h _ _ => (upd_ne (ne_of_none h hD)).trans h
    rw [List.append_nil] at k
    refine m.kp k (fun a ha => upd_ne (m.ne hD ha)) (fun a ha => List.mem_append_left _ (m.sub a ha)) fun a ha => ?_
    rcases List.mem_append.mp ha with z | z
    · exact upd_dom a (m.trk a z)
    · rw [List.mem_singleton.mp z, upd_same]; simp
  cell := upd_same
  out := fun h => m.ne hD (List.mem_append.mp h |>.elim id fun z => by cases z) rfl
theorem LO.stp (L : LO G U ads H0 D ext M H o) (hD : H0 D = none) (nt : ∀ ps, o ≠ .tbl ps) (s : Stp G (U ++ D :: ext) (ads ++ ext) H e2 M' H') : LO G U ads H0 D (ext ++ e2) M' H' o := by
  have cellD : H' D = some o := s.keep D _ L.cell L.out nt
  have eU : U ++ D :: ext ++ e2 = U ++ D :: (ext ++ e2) := by simp
  have eA : ads ++ ext ++ e2 = ads ++ (ext ++ e2) := by simp
  refine ⟨fun a ha => ?_, fun a u h n t => ?_, fun a h => s.dom a (L.dom a h), by rw [← eU, ← eA]; exact s.mem, cellD, fun h => ?_⟩
  · rcases List.mem_append.mp ha with z | z
    · exact L.new a z
    · cases e : H0 a with
      | none => rfl
      | some u => exact absurd (s.new a z) (L.dom a (by rw [e]; simp))
  · refine s.keep a u (L.keep a u h n t) (fun z => ?_) t
    rcases List.mem_append.mp z with z | z
    · exact n z
    · rw [L.new a z] at h; cases h
  · rw [← eA] at h
    rcases List.mem_append.mp h with z | z
    · exact L.out z
    · have := s.new D z
      rw [L.cell] at this; cases this
theorem LO.kw (L : LO G U ads H0 D ext M H o) (nt : ∀ xs, o ≠ .tup xs) (nf : ∀ u xs, o ≠ .frz u (.tup xs)) : Kp G (U ++ D :: ext) (ads ++ ext) H (U ++ D :: ext) (ads ++ ext) (upd H D o') := Kp.wr (by simp) L.cell nt nf
theorem LO.write (L : LO G U ads H0 D ext M H o) (hD : H0 D = none) (nt : ∀ xs, o ≠ .tup xs) (nf : ∀ u xs, o ≠ .frz u (.tup xs)) : LO G U ads H0 D ext M (upd H D o') o' := by
  refine ⟨L.new, fun a u h n t => ?_, fun a h => upd_dom a (L.dom a h), ?_, upd_same, L.out⟩
  · exact (upd_ne (ne_of_none h hD)).trans (L.keep a u h n t)
  · exact L.mem.kp (L.kw nt nf) (fun a ha => upd_ne (fun e => L.out (e ▸ ha))) L.mem.sub fun a ha => upd_dom a (L.mem.trk a ha)
theorem LO.less (L : LO G U ads H0 D ext M H o) : Kp G (U ++ D :: ext) (ads ++ ext) H (U ++ ext) (ads ++ ext) H := by
  have k : Kp G (U ++ D :: ext) (ads ++ ext) H (U ++ ext) (ads ++ ext ++ []) H := Kp.less fun a ha => by
    rcases List.mem_append.mp ha with z | z
    · exact List.mem_append_left _ z
    · exact List.mem_append_right _ (List.mem_cons_of_mem _ z)
  rw [List.append_nil] at k
  exact k
/-- D is no longer watched -/
theorem LO.free (L : LO G U ads H0 D ext M H o) (m : MemOk G U ads H0 M0) : Stp G U ads H0 ext M H :=
  ⟨L.new, L.keep, L.dom, L.mem.kp L.less (fun _ _ => rfl) (fun a ha => by
    rcases List.mem_append.mp ha with z | z
    · exact List.mem_append_left _ (m.sub a z)
    · exact List.mem_append_right _ z) fun a ha => L.mem.trk a (by
    rcases List.mem_append.mp ha with z | z
    · exact List.mem_append_left _ z
    · exact List.mem_append_right _ (List.mem_cons_of_mem _ z))⟩
theorem LO.notU (L : LO G U ads H0 D ext M H o) (m : MemOk G U ads H0 M0) (hD : H0 D = none) : D ∉ U ++ ext := fun z => by
  rcases List.mem_append.mp z with z | z
  · exact m.trk D z hD
  · exact L.out (List.mem_append_right _ z)
theorem LS.begin_ (m : MemOk G U ads H0 M0) (hD : H0 D = none) : LS G U ads H0 D [] M0 (upd H0 D (.lst [])) [] [] := ⟨LO.begin_ m hD, rfl⟩
theorem LS.stp (L : LS G U ads H0 D ext M H acc vs) (hD : H0 D = none) (s : Stp G (U ++ D :: ext) (ads ++ ext) H e2 M' H') : LS G U ads H0 D (ext ++ e2) M' H' acc vs := by
  refine ⟨L.toLO.stp hD (fun _ z => by cases z) s, ?_⟩
  have eU : U ++ D :: ext ++ e2 = U ++ D :: (ext ++ e2) := by simp
  have eA : ads ++ ext ++ e2 = ads ++ (ext ++ e2) := by simp
  rw [← eU, ← eA]
  exact L.den.stp L.mem s
theorem LS.push (L : LS G U ads H0 D ext M H acc vs) (hD : H0 D = none) {d : Cy.D} {v : Vv} (hd : Den G (U ++ D :: ext) (ads ++ ext) H d v) : LS G U ads H0 D ext M (upd H D (.lst (vs ++ [v]))) (acc ++ [d]) (vs ++ [v]) :=
  ⟨L.toLO.write hD (fun _ z => by cases z) (fun _ _ z => by cases z), (L.den.app (show DenL G (U ++ D :: ext) (ads ++ ext) H [d] [v] from ⟨v, [], rfl, hd, rfl⟩)).kp (L.toLO.kw (fun _ z => by cases z) (fun _ _ z => by cases z))⟩
theorem LS.fin_ (L : LS G U ads H0 D ext M H acc vs) (hD : H0 D = none) (m : MemOk G U ads H0 M0) {l : Bool} {Q : Vv → Hp → Prop} {E : XK} (h : Wk G (Den G) U ads H0 (mkL l acc M) Q E) : Q (.ref D) H := by
  have subA : ∀ a ∈ ads ++ ext, a ∈ U ++ ext := fun a ha => by
    rcases List.mem_append.mp ha with z | z
    · exact List.mem_append_left _ (m.sub a z)
    · exact List.mem_append_right _ z
  have nD : D ∉ U := fun z => m.trk D z hD
  cases l with
  | false => exact h ext _ _ (L.toLO.free m) ⟨D, vs, rfl, .inl ⟨.inl L.cell, L.toLO.notU m hD⟩, L.den.kp L.toLO.less⟩
  | true =>
    have k : Kp G (U ++ D :: ext) (ads ++ ext) H (U ++ (ext ++ [D])) (ads ++ ext ++ [D]) H := Kp.less fun a ha => by
      simp at ha ⊢
      rcases ha with z | z | z <;> simp [z]
    have lenA := L.mem.len
    refine h (ext ++ [D]) _ _ ⟨fun a ha => ?_, L.keep, L.dom, ?_⟩ ⟨D, rfl, ?_⟩
    · rcases List.mem_append.mp ha with z | z
      · exact L.new a z
      · rw [List.mem_singleton.mp z]; exact hD
    · rw [← List.append_assoc ads]
      refine ⟨by simp at lenA ⊢; omega, ?_, fun a ha => ?_, fun a ha => L.mem.trk a ?_, fun j o a h1 h2 => ?_⟩
      · rw [List.nodup_append]
        refine ⟨L.mem.nd, by simp, fun a ha b hb e => L.out ?_⟩
        rw [← List.mem_singleton.mp hb, ← e]
        exact ha
      · rcases List.mem_append.mp ha with z | z
        · rw [← List.append_assoc]
          exact List.mem_append_left _ (subA a z)
        · rw [← List.append_assoc]
          exact List.mem_append_right _ z
      · simp at ha ⊢
        rcases ha with z | z | z <;> simp [z]
      · by_cases hl : j < M.length
        · rw [List.getElem?_append_left hl] at h1
          rw [List.getElem?_append_left (by rw [lenA]; exact hl)] at h2
          exact (L.mem.at_ j o a h1 h2).kp k rfl
        · have e : j = M.length := by
            have := (List.getElem?_eq_some_iff.mp h1).1
            rw [List.length_append] at this
            simp at this
            omega
          subst e
          rw [List.getElem?_append_right (Nat.le_refl _)] at h1
          rw [List.getElem?_append_right (by rw [lenA]; exact Nat.le_refl _), lenA] at h2
          simp at h1 h2
          subst h1
          subst h2
          exact ⟨vs, L.cell, L.den.kp k⟩
    · rw [← List.append_assoc ads, List.getElem?_append_right (by rw [lenA]; exact Nat.le_refl _), lenA]
      simp
end
end Cy
end

section
set_option Elab.async false
set_option linter.all false
set_option maxRecDepth 100000
set_option maxHeartbeats 4000000
/-! The reading of a comprehension. -/
namespace Cy
open PySem PySem.Spec PyProof.Rows L2

/-- what a comprehension does with an item -/
def itemC (C : Cn) (t : Tg) (c e : Ex) (r : Env) (x : D) (M : Mem) : Res (Option D) := match t.to x (wipeR r t.slots) with
  | some r => match evE C c r M with
    | .ok (.bl true) M => match evE C e r M with
      | .ok d M => .ok (some d) M
      | _ => .bad
    | .ok (.bl false) M => .ok none M
    | _ => .bad
  | none => .bad
section
variable {G : Gn} {C : Cn} {W : WX} {U ads : List Addr} {H0 : Hp} {M0 : Mem} {ρ : Env} {σ : L2.St}
theorem comp_ok {t : Tg} {c e : Ex} {s : Src} {J : It} {k : Nat} {l : Bool} {Q : VK} {E : XK} {tt : TT} (rel : Rel G U ads H0 ρ M0 σ) (hs : SrcD G U ads H0 s J)
    (h : Wk G (Den G) U ads H0 ((loopC (itemC C t c e ρ) s k 0 M0 []).bind fun ys M => mkL l ys M) Q E) (htt : ∀ σ H Q, tB (tE G C wNo c) σ H Q → tt σ H Q) (D : Addr) (hD : H0 D = none) :
    ∃ Wv : Nat → Nat → Hp → Prop, (∃ m, Wv 0 m (upd H0 D (.lst []))) ∧ ∀ i m H, Wv i m H →
      (J.stop i H ∧ Q (.ref D) H) ∨ (J.go i H ∧ ∃ Nx : Hp → Prop, (∀ H', Nx H' → ∃ m', m' < m ∧ Wv (i + 1) m' H') ∧ ∀ x H', J.yld i H x H' → gT G.K t x (wipe σ t.slots) H' fun σ2 H2 => wipe σ2 t.slots = wipe σ t.slots ∧
        tt σ2 H2 fun b H3 => if b = true then tE G C wNo e σ2 H3 fun y H4 => ∃ acc, H4 D = some (.lst acc) ∧ acc.length < sizeLine ∧ Nx (upd H4 D (.lst (acc ++ [y]))) else Nx H3) := by
  have m0 := rel.mem
  let St (n i : Nat) (H : Hp) : Prop := ∃ ext M acc vs, LS G U ads H0 D ext M H acc vs ∧ Wk G (Den G) U ads H0 ((loopC (itemC C t c e ρ) s n i M acc).bind fun ys M => mkL l ys M) Q E
  refine ⟨fun i m H => St m i H, ⟨k, [], M0, [], [], LS.begin_ m0 hD, h⟩, fun i m H ⟨ext, M, acc, vs, L, h⟩ => ?_⟩
  have kp := L.toLO.kp m0 hD
  have hs' : SrcD G (U ++ D :: ext) (ads ++ ext) H s J := by
    cases s with
    | fix lo n => exact hs
    | chr z => exact hs
    | live d =>
      cases d with
      | tup xs => obtain ⟨a, h1, h2⟩ := hs; exact ⟨a, h1.kp kp, h2⟩
      | lst xs => obtain ⟨a, h1, h2⟩ := hs; exact ⟨a, h1.kp kp, h2⟩
      | obj o => obtain ⟨a, h1, h2⟩ := hs; exact ⟨a, h1.kp kp, h2⟩
      | _ => exact hs.elim
  rw [loopC.eq_def] at h
  cases hk : s.size M with
  | none => simp only [hk] at h; exact h.elim
  | some k' =>
    simp only [hk] at h
    cases hx : s.at_ M i with
    | none =>
      simp only [hx] at h
      by_cases hle : Nat.ble k' i = true
      · rw [if_pos hle] at h
        exact .inl ⟨hs'.stop L.mem hk (Nat.le_of_ble_eq_true hle), L.fin_ hD m0 h⟩
      · rw [if_neg hle] at h
        exact h.elim
    | some x =>
      simp only [hx] at h
      cases m with
      | zero => exact h.elim
      | succ n =>
        refine .inr ⟨hs'.go L.mem hx, fun H' => St n (i + 1) H', fun H' q => ⟨n, Nat.lt_succ_self n, q⟩, fun v H' hy => ?_⟩
        obtain ⟨eH, dv⟩ := hs'.yld L.mem hx hy
        subst eH
        have relw : Rel G (U ++ D :: ext) (ads ++ ext) H' (wipeR ρ t.slots) M (wipe σ t.slots) := by
          have r1 := rel.wipe t.slots
          exact ⟨L.mem, r1.len, fun j d q => let ⟨v, q1, q2⟩ := r1.at_ j d q; ⟨v, q1, q2.kp kp⟩⟩
        cases ht : t.to x (wipeR ρ t.slots) with
        | none => simp only [itemC, ht] at h; exact h.elim
        | some ρ' =>
          simp only [itemC, ht] at h
          refine gT_ok relw dv ht fun σ2 rel2 hw => ⟨by rw [hw, wipe_wipe], htt _ _ _ ⟨_, _, ρ', M, rel2, ?_⟩⟩
          cases hc : evE C c ρ' M with
          | bad => simp only [hc] at h; exact h.elim
          | exc _ _ => simp only [hc] at h; exact h.elim
          | ok cv M1 =>
            simp only [hc] at h
            intro ext2 b H3 st db
            have L3 := L.stp hD st
            cases cv with
            | bl bb =>
              refine ⟨bb, db, ?_⟩
              cases bb with
              | false =>
                show St n (i + 1) H3
                exact ⟨_, M1, acc, vs, L3, h⟩
              | true =>
                show tE G C wNo e σ2 H3 _
                refine ⟨_, _, ρ', M1, rel2.stp st, ?_⟩
                cases he : evE C e ρ' M1 with
                | bad => simp only [he] at h; exact h.elim
                | exc _ _ => simp only [he] at h; exact h.elim
                | ok d M2 =>
                  simp only [he] at h
                  intro ext3 y H4 st3 dy
                  have eU : U ++ D :: ext ++ ext2 = U ++ D :: (ext ++ ext2) := by simp
                  have eA : ads ++ ext ++ ext2 = ads ++ (ext ++ ext2) := by simp
                  rw [eU, eA] at st3 dy
                  have L4 := L3.stp hD st3
                  have eU : U ++ D :: (ext ++ ext2) ++ ext3 = U ++ D :: (ext ++ ext2 ++ ext3) := by simp
                  have eA : ads ++ (ext ++ ext2) ++ ext3 = ads ++ (ext ++ ext2 ++ ext3) := by simp
                  rw [eU, eA] at dy
                  by_cases hlt : Nat.blt acc.length top = true
                  · rw [if_pos hlt] at h
                    refine ⟨vs, L4.cell, ?_, ?_⟩
                    · rw [← L4.den.length, ← top_eq]
                      exact Nat.le_of_ble_eq_true hlt
                    · exact ⟨_, M2, acc ++ [d], vs ++ [y], L4.push hD dy, h⟩
                  · rw [if_neg hlt] at h
                    exact h.elim
            | _ => exact h.elim
end
end Cy
end

section
set_option Elab.async false
set_option linter.all false
set_option maxRecDepth 100000
set_option maxHeartbeats 4000000
/-! A checked expression does what the small language says. -/
namespace Cy
open PySem PySem.Spec PyProof.Rows L2

theorem boot_bi : ∀ b : Bi, bootBuiltins (biName b) = some (biVal b) := by
  intro b
  cases b <;> kernel_rfl
theorem ff {α : Prop} {a : Bool} (h : a = true) (e : a = false := by rfl) : α := by
  rw [e] at h; cases h

def clen : Ex → Nat
  | .cons _ r => clen r + 1
  | _ => 0
section
variable {G : Gn} {C : Cn} {X : Cx} {W : WX}
def trs (G : Gn) (C : Cn) (W : WX) : List (List Nat) → Ex → List (TE × TE)
  | k :: ks, .cons a as => (tC (.str (sg k)), tE G C W a) :: trs G C W ks as
  | _, _ => []
abbrev three (X : Cx) (a : Expr) (t : TE) : Prop := PE X a t ∧ PT X a (tB t) ∧ ∀ op es p, a = .BoolOp op es p → PW X a (tB t)
theorem three_of {a : Expr} {t : TE} (h : PE X a t) (hv : ∀ whole, isTrue a X.env whole = (do let v ← whole; standAt a.pos; holding [v] (truthy v))) (nb : ∀ op es p, a ≠ .BoolOp op es p) : three X a t :=
  ⟨h, pt_val h hv, fun op es p e => absurd e (nb op es p)⟩
theorem pe_no {a : Expr} {t : TE} (h : ∀ σ H Q, ¬ t σ H Q) : PE X a t := ⟨fun _ _ σ H Q _ q => (h σ H Q q).elim⟩

abbrev PrE (G : Gn) (C : Cn) (ie : Ex) : Prop := ∀ (X : Cx) (W : WX) (a : Expr), Gx G C X → Pas X W → chkE G.nm X.N ie X.env.scope a = true → three X a (tE G C W ie)
abbrev PrA (G : Gn) (C : Cn) (ie : Ex) : Prop := ∀ (X : Cx) (W : WX) (es : List Expr), Gx G C X → Pas X W → chkA G.nm X.N ie X.env.scope es = true →
  PA X es (tA G C W ie) ∧ es.all plainX = true ∧ clen ie = es.length ∧ ∀ (pos : Pos) (ks : List (List Nat)) (keys : List (Option Expr)), chkKeys ks keys = true → keys.length = es.length → PPs X pos keys es (trs G C W ks ie)
abbrev PrP (G : Gn) (C : Cn) (ie : Ex) : Prop := ∀ (X : Cx) (W : WX) (e : Option Expr), Gx G C X → Pas X W → chkP G.nm X.N ie X.env.scope e = true → PO X e (tP G C W ie)
abbrev PrI (G : Gn) (C : Cn) (ie : Ex) : Prop := ∀ (X : Cx) (W : WX) (tg e : Expr), Gx G C X → Pas X W → chkI G.nm X.N ie X.env.scope e = true → PI X tg e (tI G C W ie)
theorem _root_.L2.PI.imp {X : Cx} {tg e : Expr} {t t' : TI} (h : PI X tg e t) (k : ∀ σ H R, t' σ H R → t σ H R) : PI X tg e t' := ⟨fun pins s σ H R I q => h.run pins s σ H R I (k σ H R q)⟩

theorem keys_len : ∀ {ks : List (List Nat)} {keys : List (Option Expr)}, chkKeys ks keys = true → keys.length = ks.length ∧ keys.all (·.isSome) = true ∧ ∀ k ∈ ks, okS k
  | [], [], _ => ⟨rfl, rfl, fun _ z => by cases z⟩
  | k :: ks, some (.Constant (.str x) _ _) :: es, h => by
    have h : (decide (x = sg k) && okC k && chkKeys ks es) = true := h
    rw [Bool.and_eq_true, Bool.and_eq_true] at h
    obtain ⟨i1, i2, i3⟩ := keys_len h.2
    refine ⟨by simp [i1], by simpa using i2, fun y hy => ?_⟩
    rcases List.mem_cons.mp hy with e | hy
    · rw [e]; exact okS_of h.1.2
    · exact i3 y hy
  | [], _ :: _, h => by cases h
  | _ :: _, [], h => by cases h
  | _ :: _, none :: _, h => by cases h
  | _ :: _, some e :: _, h => by
    cases e with
    | Constant c _ _ =>
      cases c with
      | str x =>
        rename_i k ks es i j
        have h : (decide (x = sg k) && okC k && chkKeys ks es) = true := h
        rw [Bool.and_eq_true, Bool.and_eq_true] at h
        obtain ⟨i1, i2, i3⟩ := keys_len h.2
        refine ⟨by simp [i1], by simpa using i2, fun y hy => ?_⟩
        rcases List.mem_cons.mp hy with e | hy
        · rw [e]; exact okS_of h.1.2
        · exact i3 y hy
      | _ => cases h
    | _ => cases h
/-- the pairs of a display -/
theorem pairs_imp : ∀ (as : Ex) (ks : List (List Nat)) (σ : L2.St) (H : Hp) (Q : List (Vv × Vv) → Hp → Prop), clen as = ks.length → tA G C W as σ H (fun vs H' => Q ((ks.map fun k => V.str (sg k)).zip vs) H') → tPairs (trs G C W ks as) σ H Q
  | .cons a as, k :: ks, σ, H, Q, hl, h => by
    obtain ⟨U, ads, ρ, M, rel, h⟩ := h
    simp only [evA] at h
    refine ⟨U, ads, ρ, M, rel, (Wk.bind (R := Den G) h).mono fun v H1 ⟨ext, d, M1, _, st, dv, h2⟩ => ?_⟩
    refine pairs_imp as ks σ H1 _ (by simpa [clen] using hl) ⟨_, _, ρ, M1, rel.stp st, (Wk.bind (R := DenL G) h2).mono fun vs H2 ⟨ext2, ds, M2, _, st2, dl, h3⟩ => ?_⟩
    have rel1 := rel.stp st
    exact Wk.nowL h3 st2.mem ⟨v, vs, rfl, dv.stp rel1.mem st2, dl⟩
  | .cons a as, [], σ, H, Q, hl, h => by simp [clen] at hl
  | .nil, [], σ, H, Q, _, h => by
    obtain ⟨U, ads, ρ, M, rel, h⟩ := h
    simp only [evA] at h
    exact Wk.nowL h rel.mem rfl
  | .nil, k :: ks, σ, H, Q, hl, h => by simp [clen] at hl
  | .var _, _, _, _, _, _, h | .cN, _, _, _, _, _, h | .cB _, _, _, _, _, _, h | .cI _, _, _, _, _, _, h | .cS _, _, _, _, _, _, h | .gl _, _, _, _, _, _, h | .bin _ _ _, _, _, _, _, _, h | .neg _, _, _, _, _, _, h | .cmp _ _ _, _, _, _, _, _, h
  | .ch2 _ _ _ _ _, _, _, _, _, _, h | .ch3 _ _ _ _ _ _ _, _, _, _, _, _, h | .and _ _, _, _, _, _, _, h | .or _ _, _, _, _, _, _, h | .not _, _, _, _, _, _, h | .ite _ _ _, _, _, _, _, _, h | .tup _, _, _, _, _, _, h | .lst _ _, _, _, _, _, _, h
  | .dsp _ _, _, _, _, _, _, h | .idx _ _, _, _, _, _, _, h | .sl _ _ _ _, _, _, _, _, _, h | .call _ _, _, _, _, _, _, h | .pcall _ _, _, _, _, _, _, h | .meth _ _ _ _, _, _, _, _, _, h | .mk _ _, _, _, _, _, _, h | .bi _ _, _, _, _, _, _, h
  | .bm _ _ _, _, _, _, _, _, h | .fld _ _, _, _, _, _, _, h | .src _, _, _, _, _, _, h | .srcS _, _, _, _, _, _, h | .isa _ _, _, _, _, _, _, h | .rng1 _, _, _, _, _, _, h | .rng2 _ _, _, _, _, _, _, h | .comp _ _ _ _ _, _, _, _, _, _, h | .err _, _, _, _, _, _, h => by
    obtain ⟨U, ads, ρ, M, rel, h⟩ := h
    exact h.elim
end
end Cy
end

section
set_option Elab.async false
set_option linter.all false
set_option maxRecDepth 100000
set_option maxHeartbeats 4000000
/-! A checked expression does what the small language says: the cases. -/
namespace Cy
open PySem PySem.Spec PyProof.Rows L2

section
variable {G : Gn} {C : Cn}
theorem e_var (i : Nat) : PrE G C (.var i) := fun X W a g hp h => by
  simp only [chkE] at h
  split at h
  · rename_i x p
    rw [Bool.and_eq_true] at h
    have h1 := of_decide_eq_true h.1
    obtain ⟨d1, d2, _⟩ := okN_db (g.okn i x h1)
    refine three_of ((pe_var h1 (vis_of h.2) d1 d2).imp ?_) (by intro _; rfl) (by intro _ _ _ z; cases z)
    rintro σ H Q ⟨U, ads, ρ, M, rel, h⟩
    simp only [evE] at h
    split at h
    · rename_i d hd
      obtain ⟨v, e1, e2⟩ := rel.at_ i d hd
      exact ⟨v, e1, Wk.now h rel.mem e2⟩
    · exact h.elim
  · cases h
theorem e_con {ie : Ex} {d : D} {v : Vv} {X : Cx} {W : WX} {a : Expr} (h : PE X a (tC v)) (he : ∀ ρ M, evE C ie ρ M = .ok d M) (hd : ∀ U ads H, Den G U ads H d v) : PE X a (tE G C W ie) := h.imp fun σ H Q ⟨U, ads, ρ, M, rel, h⟩ => by
  rw [he] at h
  exact Wk.now h rel.mem (hd U ads H)
theorem e_cN : PrE G C .cN := fun X W a g hp h => by
  simp only [chkE] at h
  split at h
  · exact three_of (e_con pe_non (fun _ _ => rfl) fun _ _ _ => rfl) (by intro _; rfl) (by intro _ _ _ z; cases z)
  · cases h
theorem e_cB (b : Bool) : PrE G C (.cB b) := fun X W a g hp h => by
  simp only [chkE] at h
  split at h
  · have e := eq_of_beq h
    subst e
    exact three_of (e_con pe_bl (fun _ _ => rfl) fun _ _ _ => rfl) (by intro _; rfl) (by intro _ _ _ z; cases z)
  · cases h
theorem e_cI (b : Int) : PrE G C (.cI b) := fun X W a g hp h => by
  simp only [chkE] at h
  split at h
  · have e := eq_of_beq h
    subst e
    exact three_of (e_con pe_int (fun _ _ => rfl) fun _ _ _ => rfl) (by intro _; rfl) (by intro _ _ _ z; cases z)
  · cases h
theorem e_cS (s : List Nat) : PrE G C (.cS s) := fun X W a g hp h => by
  simp only [chkE] at h
  split at h
  · rw [Bool.and_eq_true] at h
    have e := of_decide_eq_true h.1
    subst e
    exact three_of (e_con pe_str (fun _ _ => rfl) fun _ _ _ => ⟨rfl, okS_of h.2⟩) (by intro _; rfl) (by intro _ _ _ z; cases z)
  · cases h
theorem e_gl (c : Nat) : PrE G C (.gl c) := fun X W a g hp h => by
  simp only [chkE] at h
  split at h
  · rename_i x p
    rw [Bool.and_eq_true] at h
    have e := of_decide_eq_true h.1
    subst e
    cases hc : C.con c with
    | none =>
      refine three_of (pe_no fun σ H Q => ?_) (by intro _; rfl) (by intro _ _ _ z; cases z)
      rintro ⟨U, ads, ρ, M, rel, h⟩
      simp only [evE, hc] at h
      exact h
    | some d =>
      obtain ⟨v, u, h1, h2, h3⟩ := g.con c d hc
      exact three_of (e_con (d := d) (pe_glob (gl_of h.2) h1 h2 (okN_db (g.oknm c)).1) (fun _ _ => by simp only [evE, hc]) h3) (by intro _; rfl) (by intro _ _ _ z; cases z)
  · cases h
theorem e_bin (o : BOp) (a b : Ex) (ha : PrE G C a) (hb : PrE G C b) : PrE G C (.bin o a b) := fun X W e g hp h => by
  simp only [chkE] at h
  split at h
  · rw [Bool.and_eq_true, Bool.and_eq_true] at h
    have e := of_decide_eq_true h.1.1
    subst e
    exact three_of ((pe_op (opB g.K o) (ha X W _ g hp h.1.2).1 (hb X W _ g hp h.2).1).imp (two_imp fun _ _ => rfl)) (by intro _; rfl) (by intro _ _ _ z; cases z)
  · cases h
theorem e_neg (a : Ex) (ha : PrE G C a) : PrE G C (.neg a) := fun X W e g hp h => by
  simp only [chkE] at h
  split at h
  · refine three_of ((pe_un un_neg (ha X W _ g hp h).1).imp ?_) (by intro _; rfl) (by intro _ _ _ z; cases z)
    rintro σ H Q ⟨U, ads, ρ, M, rel, h⟩
    simp only [evE] at h
    refine ⟨U, ads, ρ, M, rel, (Wk.bind (R := Den G) h).mono fun x H1 ⟨ext, d, M1, _, st, dx, h2⟩ => ?_⟩
    cases d with
    | int i => exact ⟨i, dx, Wk.now h2 st.mem rfl⟩
    | _ => exact h2.elim
  · cases h
theorem e_cmp (o : COp) (a b : Ex) (ha : PrE G C a) (hb : PrE G C b) : PrE G C (.cmp o a b) := fun X W e g hp h => by
  simp only [chkE] at h
  split at h
  · rw [Bool.and_eq_true, Bool.and_eq_true, Bool.and_eq_true] at h
    have e := of_decide_eq_true h.1.1.1
    subst e
    have p1 := (ha X W _ g hp h.1.1.2).1
    have p2 := (hb X W _ g hp h.1.2).1
    have im := two_imp (G := G) (C := C) (W := W) (a := a) (b := b) (f := copR o) (ie := .cmp o a b) fun _ _ => rfl
    exact ⟨(pe_cmpR (opC g.K g.eW g.un o) p1 p2 (marks_plain h.2)).imp im, (pt_cmpR (opC g.K g.eW g.un o) p1 p2 (marks_plain h.2)).imp fun σ H Q q => im σ H _ q, fun _ _ _ z => by cases z⟩
  · cases h
end
end Cy
end

section
set_option Elab.async false
set_option linter.all false
set_option maxRecDepth 100000
set_option maxHeartbeats 4000000
/-! A checked expression does what the small language says: more cases. -/
namespace Cy
open PySem PySem.Spec PyProof.Rows L2

section
variable {G : Gn} {C : Cn}
theorem copR_some {o : COp} {x y : D} {M : Mem} {k : Bool} (h : cop o x y M = some k) : copR o x y M = .ok (.bl k) M := by
  unfold copR
  rw [h]
theorem ch2_imp {W : WX} {o p : COp} {a b c : Ex} : ∀ σ H Q, tE G C W (.ch2 o p a b c) σ H Q → tChain (rTwo G (copR o)) (rTwo G (copR p)) (tE G C W a) (tE G C W b) (tE G C W c) σ H Q := by
  rintro σ H Q ⟨U, ads, ρ, M, rel, h⟩
  simp only [evE] at h
  refine ⟨U, ads, ρ, M, rel, (Wk.bind (R := Den G) h).mono fun x H1 ⟨ext, d, M1, _, st, dx, h2⟩ => ⟨_, _, ρ, M1, rel.stp st, (Wk.bind (R := Den G) h2).mono fun y H2 ⟨ext2, d2, M2, _, st2, dy, h3⟩ => ?_⟩⟩
  have rel1 := rel.stp st
  have rel2 := rel1.stp st2
  refine ⟨_, _, M2, d, d2, WE W σ, st2.mem, dx.stp rel1.mem st2, dy, ?_⟩
  cases hc : cop o d d2 M2 with
  | none => simp only [hc] at h3; exact h3.elim
  | some k =>
    simp only [hc] at h3
    rw [copR_some hc]
    intro ext3 z H3 st3 dz
    refine ⟨k, dz, ?_⟩
    cases k with
    | false => exact Wk.now (Wk.shift h3 st3) st3.mem rfl
    | true =>
      refine ⟨_, _, ρ, M2, rel2.stp st3, (Wk.bind (R := Den G) (Wk.shift h3 st3)).mono fun w H4 ⟨ext4, d4, M4, _, st4, dw, h4⟩ => ?_⟩
      have rel3 := rel2.stp st3
      exact ⟨_, _, M4, d2, d4, WE W σ, st4.mem, (dy.stp rel2.mem st3).stp rel3.mem st4, dw, h4⟩
theorem e_ch2 (o p : COp) (a b c : Ex) (ha : PrE G C a) (hb : PrE G C b) (hc : PrE G C c) : PrE G C (.ch2 o p a b c) := fun X W e g hp h => by
  simp only [chkE] at h
  split at h
  · simp only [Bool.and_eq_true, decide_eq_true_eq] at h
    obtain ⟨⟨⟨⟨⟨e1, e2⟩, h1⟩, h2⟩, h3⟩, h4⟩ := h
    subst e1
    subst e2
    have p1 := (ha X W _ g hp h1).1
    have p2 := (hb X W _ g hp h2).1
    have p3 := (hc X W _ g hp h3).1
    have m := marks_plain (op := copOf p) h4
    exact ⟨(pe_chain (opC g.K g.eW g.un o) (opC g.K g.eW g.un p) p1 p2 p3 m).imp ch2_imp, (pt_chain (opC g.K g.eW g.un o) (opC g.K g.eW g.un p) p1 p2 p3 m).imp fun σ H Q q => ch2_imp σ H _ q, fun _ _ _ z => by cases z⟩
  · cases h
theorem ch3_imp {W : WX} {o p q : COp} {a b c d : Ex} : ∀ σ H Q, tE G C W (.ch3 o p q a b c d) σ H Q → tCh3 (rTwo G (copR o)) (rTwo G (copR p)) (rTwo G (copR q)) (tE G C W a) (tE G C W b) (tE G C W c) (tE G C W d) σ H Q := by
  rintro σ H Q ⟨U, ads, ρ, M, rel, h⟩
  simp only [evE] at h
  refine ⟨U, ads, ρ, M, rel, (Wk.bind (R := Den G) h).mono fun x H1 ⟨ext, d, M1, _, st, dx, h2⟩ => ⟨_, _, ρ, M1, rel.stp st, (Wk.bind (R := Den G) h2).mono fun y H2 ⟨ext2, d2, M2, _, st2, dy, h3⟩ => ?_⟩⟩
  have rel1 := rel.stp st
  have rel2 := rel1.stp st2
  refine ⟨_, _, M2, d, d2, WE W σ, st2.mem, dx.stp rel1.mem st2, dy, ?_⟩
  cases hc : cop o d d2 M2 with
  | none => simp only [hc] at h3; exact h3.elim
  | some k =>
    simp only [hc] at h3
    rw [copR_some hc]
    intro ext3 z H3 st3 dz
    refine ⟨k, dz, ?_⟩
    cases k with
    | false => exact Wk.now (Wk.shift h3 st3) st3.mem rfl
    | true =>
      refine ⟨_, _, ρ, M2, rel2.stp st3, (Wk.bind (R := Den G) (Wk.shift h3 st3)).mono fun w H4 ⟨ext4, d4, M4, _, st4, dw, h4⟩ => ?_⟩
      have rel3 := rel2.stp st3
      have rel4 := rel3.stp st4
      refine ⟨_, _, M4, d2, d4, WE W σ, st4.mem, (dy.stp rel2.mem st3).stp rel3.mem st4, dw, ?_⟩
      cases hc2 : cop p d2 d4 M4 with
      | none => simp only [hc2] at h4; exact h4.elim
      | some k2 =>
        simp only [hc2] at h4
        rw [copR_some hc2]
        intro ext5 z5 H5 st5 dz5
        refine ⟨k2, dz5, ?_⟩
        cases k2 with
        | false => exact Wk.now (Wk.shift h4 st5) st5.mem rfl
        | true =>
          refine ⟨_, _, ρ, M4, rel4.stp st5, (Wk.bind (R := Den G) (Wk.shift h4 st5)).mono fun w6 H6 ⟨ext6, d6, M6, _, st6, dw6, h6⟩ => ?_⟩
          have rel5 := rel4.stp st5
          exact ⟨_, _, M6, d4, d6, WE W σ, st6.mem, (dw.stp rel4.mem st5).stp rel5.mem st6, dw6, h6⟩
theorem e_ch3 (o p q : COp) (a b c d : Ex) (ha : PrE G C a) (hb : PrE G C b) (hc : PrE G C c) (hd : PrE G C d) : PrE G C (.ch3 o p q a b c d) := fun X W e g hp h => by
  simp only [chkE] at h
  split at h
  · simp only [Bool.and_eq_true, decide_eq_true_eq] at h
    obtain ⟨⟨⟨⟨⟨⟨⟨e1, e2⟩, e3⟩, h1⟩, h2⟩, h3⟩, h4⟩, h5⟩ := h
    subst e1
    subst e2
    subst e3
    have p1 := (ha X W _ g hp h1).1
    have p2 := (hb X W _ g hp h2).1
    have p3 := (hc X W _ g hp h3).1
    have p4 := (hd X W _ g hp h4).1
    have m := marks_plain (op := copOf q) h5
    exact ⟨(pe_ch3 (opC g.K g.eW g.un o) (opC g.K g.eW g.un p) (opC g.K g.eW g.un q) p1 p2 p3 p4 m).imp ch3_imp, (pt_ch3 (opC g.K g.eW g.un o) (opC g.K g.eW g.un p) (opC g.K g.eW g.un q) p1 p2 p3 p4 m).imp fun σ H Q q => ch3_imp σ H _ q, fun _ _ _ z => by cases z⟩
  · cases h
theorem and_imp {W : WX} {a b : Ex} : ∀ σ H Q, tE G C W (.and a b) σ H Q → tAndV (tE G C W a) (tE G C W b) σ H Q := by
  rintro σ H Q ⟨U, ads, ρ, M, rel, h⟩
  simp only [evE] at h
  refine ⟨U, ads, ρ, M, rel, (Wk.bind (R := Den G) h).mono fun x H1 ⟨ext, d, M1, _, st, dx, h2⟩ => ?_⟩
  cases d with
  | bl k =>
    refine ⟨k, dx, ?_⟩
    cases k with
    | true => exact ⟨_, _, ρ, M1, rel.stp st, h2⟩
    | false => exact Wk.now h2 st.mem rfl
  | _ => exact h2.elim
theorem or_imp {W : WX} {a b : Ex} : ∀ σ H Q, tE G C W (.or a b) σ H Q → tOrV (tE G C W a) (tE G C W b) σ H Q := by
  rintro σ H Q ⟨U, ads, ρ, M, rel, h⟩
  simp only [evE] at h
  refine ⟨U, ads, ρ, M, rel, (Wk.bind (R := Den G) h).mono fun x H1 ⟨ext, d, M1, _, st, dx, h2⟩ => ?_⟩
  cases d with
  | bl k =>
    refine ⟨k, dx, ?_⟩
    cases k with
    | false => exact ⟨_, _, ρ, M1, rel.stp st, h2⟩
    | true => exact Wk.now h2 st.mem rfl
  | _ => exact h2.elim
theorem andT_imp {W : WX} {a b : Ex} : ∀ σ H Q, tB (tE G C W (.and a b)) σ H Q → tAnd (tB (tE G C W a)) (tB (tE G C W b)) σ H Q := fun σ H Q h => by
  obtain ⟨U, ads, ρ, M, rel, h⟩ := h
  simp only [evE] at h
  refine ⟨U, ads, ρ, M, rel, (Wk.bind (R := Den G) h).mono fun x H1 ⟨ext, d, M1, _, st, dx, h2⟩ => ?_⟩
  cases d with
  | bl k =>
    refine ⟨k, dx, ?_⟩
    cases k with
    | true => exact ⟨_, _, ρ, M1, rel.stp st, h2⟩
    | false =>
      obtain ⟨c, e, q⟩ := Wk.now h2 st.mem (show Den G _ _ H1 (.bl false) (.bl false) from rfl)
      cases e
      exact q
  | _ => exact h2.elim
theorem orT_imp {W : WX} {a b : Ex} : ∀ σ H Q, tB (tE G C W (.or a b)) σ H Q → tOr (tB (tE G C W a)) (tB (tE G C W b)) σ H Q := fun σ H Q h => by
  obtain ⟨U, ads, ρ, M, rel, h⟩ := h
  simp only [evE] at h
  refine ⟨U, ads, ρ, M, rel, (Wk.bind (R := Den G) h).mono fun x H1 ⟨ext, d, M1, _, st, dx, h2⟩ => ?_⟩
  cases d with
  | bl k =>
    refine ⟨k, dx, ?_⟩
    cases k with
    | false => exact ⟨_, _, ρ, M1, rel.stp st, h2⟩
    | true =>
      obtain ⟨c, e, q⟩ := Wk.now h2 st.mem (show Den G _ _ H1 (.bl true) (.bl true) from rfl)
      cases e
      exact q
  | _ => exact h2.elim
theorem e_and (a b : Ex) (ha : PrE G C a) (hb : PrE G C b) : PrE G C (.and a b) := fun X W e g hp h => by
  simp only [chkE] at h
  split at h
  · rename_i x y r pos
    rw [Bool.and_eq_true] at h
    obtain ⟨p1, t1, _⟩ := ha X W _ g hp h.1
    cases r with
    | nil =>
      obtain ⟨p2, t2, _⟩ := hb X W _ g hp h.2
      have w := (pw_and t1 (pw_and1 (pos := pos) t2)).imp (andT_imp (W := W) (a := a) (b := b))
      exact ⟨(pe_and p1 (pe_one p2)).imp and_imp, w.pt, fun _ _ _ z => by cases z; exact w⟩
    | cons z zs =>
      obtain ⟨p2, t2, w2⟩ := hb X W _ g hp h.2
      have w := (pw_and t1 (w2 _ _ _ rfl)).imp (andT_imp (W := W) (a := a) (b := b))
      exact ⟨(pe_and p1 p2).imp and_imp, w.pt, fun _ _ _ z => by cases z; exact w⟩
  · cases h
theorem e_or (a b : Ex) (ha : PrE G C a) (hb : PrE G C b) : PrE G C (.or a b) := fun X W e g hp h => by
  simp only [chkE] at h
  split at h
  · rename_i x y r pos
    rw [Bool.and_eq_true] at h
    obtain ⟨p1, t1, _⟩ := ha X W _ g hp h.1
    cases r with
    | nil =>
      obtain ⟨p2, t2, _⟩ := hb X W _ g hp h.2
      have w := (pw_or t1 (pw_or1 (pos := pos) t2)).imp (orT_imp (W := W) (a := a) (b := b))
      exact ⟨(pe_or p1 (pe_one p2)).imp or_imp, w.pt, fun _ _ _ z => by cases z; exact w⟩
    | cons z zs =>
      obtain ⟨p2, t2, w2⟩ := hb X W _ g hp h.2
      have w := (pw_or t1 (w2 _ _ _ rfl)).imp (orT_imp (W := W) (a := a) (b := b))
      exact ⟨(pe_or p1 p2).imp or_imp, w.pt, fun _ _ _ z => by cases z; exact w⟩
  · cases h
theorem e_not (a : Ex) (ha : PrE G C a) : PrE G C (.not a) := fun X W e g hp h => by
  simp only [chkE] at h
  split at h
  · obtain ⟨p1, t1, _⟩ := ha X W _ g hp h
    refine ⟨(pe_not p1).imp ?_, (pt_not t1).imp ?_, fun _ _ _ z => by cases z⟩
    · rintro σ H Q ⟨U, ads, ρ, M, rel, h⟩
      simp only [evE] at h
      refine ⟨U, ads, ρ, M, rel, (Wk.bind (R := Den G) h).mono fun x H1 ⟨ext, d, M1, _, st, dx, h2⟩ => ?_⟩
      cases d with
      | bl k => exact ⟨k, dx, Wk.now h2 st.mem rfl⟩
      | _ => exact h2.elim
    · intro σ H Q h
      obtain ⟨U, ads, ρ, M, rel, h⟩ := h
      simp only [evE] at h
      refine ⟨U, ads, ρ, M, rel, (Wk.bind (R := Den G) h).mono fun x H1 ⟨ext, d, M1, _, st, dx, h2⟩ => ?_⟩
      cases d with
      | bl k =>
        refine ⟨k, dx, ?_⟩
        obtain ⟨c, e, q⟩ := Wk.now h2 st.mem (show Den G _ _ H1 (.bl (!k)) (.bl (!k)) from rfl)
        cases e
        exact q
      | _ => exact h2.elim
  · cases h
theorem ite_imp {W : WX} {c a b : Ex} : ∀ σ H Q, tE G C W (.ite c a b) σ H Q → tIf (tB (tE G C W c)) (tE G C W a) (tE G C W b) σ H Q := by
  rintro σ H Q ⟨U, ads, ρ, M, rel, h⟩
  simp only [evE] at h
  refine ⟨U, ads, ρ, M, rel, (Wk.bind (R := Den G) h).mono fun x H1 ⟨ext, d, M1, _, st, dx, h2⟩ => ?_⟩
  cases d with
  | bl k =>
    refine ⟨k, dx, ?_⟩
    cases k with
    | true => exact ⟨_, _, ρ, M1, rel.stp st, h2⟩
    | false => exact ⟨_, _, ρ, M1, rel.stp st, h2⟩
  | _ => exact h2.elim
theorem e_ite (c a b : Ex) (hc : PrE G C c) (ha : PrE G C a) (hb : PrE G C b) : PrE G C (.ite c a b) := fun X W e g hp h => by
  simp only [chkE] at h
  split at h
  · rw [Bool.and_eq_true, Bool.and_eq_true] at h
    obtain ⟨_, t0, _⟩ := hc X W _ g hp h.1.1
    obtain ⟨p1, t1, _⟩ := ha X W _ g hp h.1.2
    obtain ⟨p2, t2, _⟩ := hb X W _ g hp h.2
    exact ⟨(pe_ifExp t0 p1 p2).imp ite_imp, (pt_if t0 t1 t2).imp fun σ H Q q => ite_imp σ H _ q, fun _ _ _ z => by cases z⟩
  · cases h
theorem e_tup (es : Ex) (ha : PrA G C es) : PrE G C (.tup es) := fun X W e g hp h => by
  simp only [chkE] at h
  split at h
  · refine three_of ((pe_tup (ha X W _ g hp h).1).imp ?_) (by intro _; rfl) (by intro _ _ _ z; cases z)
    rintro σ H Q ⟨U, ads, ρ, M, rel, h⟩
    simp only [evE] at h
    refine ⟨U, ads, ρ, M, rel, (Wk.bind (R := DenL G) h).mono fun x H1 ⟨ext, d, M1, _, st, dx, h2⟩ => ?_⟩
    by_cases q : Nat.ble d.length top = true
    · rw [if_pos q] at h2
      exact ⟨by rw [← dx.length, ← top_eq]; exact Nat.le_of_ble_eq_true q, fun p hp => Wk.tup h2 st.mem dx hp⟩
    · rw [if_neg q] at h2
      exact h2.elim
  · cases h
theorem e_lst (l : Bool) (es : Ex) (ha : PrA G C es) : PrE G C (.lst l es) := fun X W e g hp h => by
  simp only [chkE] at h
  split at h
  · refine three_of ((pe_lst (ha X W _ g hp h).1).imp ?_) (by intro _; rfl) (by intro _ _ _ z; cases z)
    rintro σ H Q ⟨U, ads, ρ, M, rel, h⟩
    simp only [evE] at h
    refine ⟨U, ads, ρ, M, rel, (Wk.bind (R := DenL G) h).mono fun x H1 ⟨ext, d, M1, _, st, dx, h2⟩ => ?_⟩
    by_cases q : Nat.ble d.length top = true
    · rw [if_pos q] at h2
      exact ⟨by rw [← dx.length, ← top_eq]; exact Nat.le_of_ble_eq_true q, fun p hp => Wk.mk h2 st.mem dx hp⟩
    · rw [if_neg q] at h2
      exact h2.elim
  · cases h
theorem e_idx (a b : Ex) (ha : PrE G C a) (hb : PrE G C b) : PrE G C (.idx a b) := fun X W e g hp h => by
  simp only [chkE] at h
  split at h
  · rw [Bool.and_eq_true, Bool.and_eq_true] at h
    exact three_of ((pe_ix (ixG g.K g.eW g.un) (ha X W _ g hp h.1.1).1 (hb X W _ g hp h.1.2).1 (ix_plain h.2)).imp (two_imp fun _ _ => rfl)) (by intro _; rfl) (by intro _ _ _ z; cases z)
  · cases h
theorem e_sl (l : Bool) (a lo hi : Ex) (ha : PrE G C a) (hl : PrP G C lo) (hh : PrP G C hi) : PrE G C (.sl l a lo hi) := fun X W e g hp h => by
  simp only [chkE] at h
  split at h
  · rw [Bool.and_eq_true, Bool.and_eq_true] at h
    refine three_of ((pe_slice (slG g.K l) (ha X W _ g hp h.1.1).1 (hl X W _ g hp h.1.2) (hh X W _ g hp h.2)).imp ?_) (by intro _; rfl) (by intro _ _ _ z; cases z)
    rintro σ H Q ⟨U, ads, ρ, M, rel, h⟩
    simp only [evE] at h
    refine ⟨U, ads, ρ, M, rel, (Wk.bind (R := Den G) h).mono fun x H1 ⟨ext, d, M1, _, st, dx, h2⟩ => ⟨_, _, ρ, M1, rel.stp st, (Wk.bind (R := fun _ _ _ (a b : Option Int) => a = b) h2).mono fun i H2 ⟨ext2, i2, M2, _, st2, ei, h3⟩ =>
      ⟨_, _, ρ, M2, (rel.stp st).stp st2, (Wk.bind (R := fun _ _ _ (a b : Option Int) => a = b) h3).mono fun j H3 ⟨ext3, j2, M3, _, st3, ej, h4⟩ => ?_⟩⟩⟩
    subst ei
    subst ej
    have rel1 := rel.stp st
    exact ⟨_, _, M3, d, _, st3.mem, (dx.stp rel1.mem st2).stp (rel1.stp st2).mem st3, h4⟩
  · cases h
end
end Cy
end

section
set_option Elab.async false
set_option linter.all false
set_option maxRecDepth 100000
set_option maxHeartbeats 4000000
/-! A checked expression does what the small language says: calls, lists, the whole. -/
namespace Cy
open PySem PySem.Spec PyProof.Rows L2

section
variable {G : Gn} {C : Cn}
theorem a_nil : PrA G C .nil := fun X W es g hp h => by
  cases es with
  | cons _ _ => cases h
  | nil =>
    refine ⟨pa_nil.imp ?_, rfl, rfl, fun pos ks keys _ hl => ?_⟩
    · rintro σ H Q ⟨U, ads, ρ, M, rel, h⟩
      exact Wk.nowL h rel.mem rfl
    · cases keys with
      | cons _ _ => cases hl
      | nil => cases ks <;> exact pps_nil
theorem a_cons (a as : Ex) (ha : PrE G C a) (hs : PrA G C as) : PrA G C (.cons a as) := fun X W es g hp h => by
  cases es with
  | nil => simp only [chkA] at h; cases h
  | cons e es =>
    simp only [chkA] at h
    rw [Bool.and_eq_true, Bool.and_eq_true] at h
    obtain ⟨p1, p2, p3, p4⟩ := hs X W es g hp h.2
    have pa := (ha X W e g hp h.1.2).1
    refine ⟨(pa_cons pa p1 (star_plain h.1.1)).imp ?_, by rw [List.all_cons, h.1.1, p2]; rfl, by simp [clen, p3], fun pos ks keys hk hl => ?_⟩
    · rintro σ H Q ⟨U, ads, ρ, M, rel, h⟩
      simp only [evA] at h
      refine ⟨U, ads, ρ, M, rel, (Wk.bind (R := Den G) h).mono fun x H1 ⟨ext, d, M1, _, st, dx, h2⟩ => ⟨_, _, ρ, M1, rel.stp st, (Wk.bind (R := DenL G) h2).mono fun xs H2 ⟨ext2, ds, M2, _, st2, dl, h3⟩ => ?_⟩⟩
      exact Wk.nowL h3 st2.mem ⟨x, xs, rfl, dx.stp (rel.stp st).mem st2, dl⟩
    · cases ks with
      | nil => cases keys with
        | nil => cases hl
        | cons _ _ => cases hk
      | cons k ks => cases keys with
        | nil => cases hl
        | cons key keys =>
          cases key with
          | none => cases hk
          | some key =>
            cases key with
            | Constant c i p =>
              cases c with
              | str x =>
                have hk : (decide (x = sg k) && okC k && chkKeys ks keys) = true := hk
                rw [Bool.and_eq_true, Bool.and_eq_true] at hk
                have e := of_decide_eq_true hk.1.1
                subst e
                exact pps_cons pe_str pa (p4 pos ks keys hk.2 (by simpa using hl))
              | _ => cases hk
            | _ => cases hk
theorem p_nil : PrP G C .nil := fun X W e g hp h => by
  cases e with
  | some _ => cases h
  | none =>
    refine po_none.imp ?_
    rintro σ H Q ⟨U, ads, ρ, M, rel, h⟩
    exact h [] none H (Stp.refl rel.mem) rfl
theorem p_cons (a as : Ex) (ha : PrE G C a) : PrP G C (.cons a as) := fun X W e g hp h => by
  cases e with
  | none => simp only [chkP] at h; cases h
  | some e =>
    simp only [chkP] at h
    rw [Bool.and_eq_true] at h
    cases as with
    | nil =>
      refine (po_some (ha X W e g hp h.2).1).imp ?_
      rintro σ H Q ⟨U, ads, ρ, M, rel, h⟩
      simp only [evP] at h
      refine ⟨U, ads, ρ, M, rel, (Wk.bind (R := Den G) h).mono fun x H1 ⟨ext, d, M1, _, st, dx, h2⟩ => ?_⟩
      cases d with
      | int i => exact ⟨i, dx, h2 [] (some i) H1 (Stp.refl st.mem) rfl⟩
      | _ => exact h2.elim
    | _ => exact ff h.1
theorem i_src (a : Ex) (ha : PrE G C a) : PrI G C (.src a) := fun X W tg e g hp h => by
  simp only [chkI] at h
  rw [Bool.and_eq_true] at h
  refine (pi_seq (ha X W e g hp h.2).1).imp ?_
  rintro σ H R ⟨U, ads, ρ, M, rel, h⟩
  simp only [evI] at h
  refine ⟨U, ads, ρ, M, rel, (Wk.bind (R := Den G) h).mono fun x H1 ⟨ext, d, M1, _, st, dx, h2⟩ => ?_⟩
  cases hx : items (view M1 d) with
  | none => rw [hx] at h2; exact h2.elim
  | some xs =>
    rw [hx] at h2
    have h2 : Wk G (SrcD G) (U ++ ext) (ads ++ ext) H1 (.ok (.live d) M1) R (WE W σ) := h2
    have now : ∀ J, SrcD G (U ++ ext) (ads ++ ext) H1 (.live d) J → R J H1 := fun J q => h2 [] J H1 (Stp.refl st.mem) (by simpa using q)
    cases d with
    | tup ys =>
      obtain ⟨a, vs, e1, e2, e3⟩ := dx
      subst e1
      exact ⟨a, rfl, .inr ⟨⟨vs, by rw [← g.K]; exact e2⟩, now _ ⟨a, ⟨a, vs, rfl, e2, e3⟩, by rw [g.K]⟩⟩⟩
    | lst ys =>
      obtain ⟨a, vs, e1, e2, e3⟩ := dx
      subst e1
      exact ⟨a, rfl, .inl ⟨⟨vs, by rw [← g.K]; exact KLs.sq e2⟩, now _ ⟨a, ⟨a, vs, rfl, e2, e3⟩, by rw [g.K]⟩⟩⟩
    | obj l =>
      cases hv : view M1 (.obj l) with
      | lst ys =>
        obtain ⟨a, vs, e1, e2, e3⟩ := view_lst st.mem dx hv
        subst e1
        exact ⟨a, rfl, .inl ⟨⟨vs, by rw [← g.K]; exact e2⟩, now _ ⟨a, dx, by rw [g.K]⟩⟩⟩
      | tup ys => exact nomatch view_eq hv (fun _ z => by cases z) (fun _ z => by cases z)
      | _ => rw [hv] at hx; cases hx
    | _ => cases hx
theorem i_srcS (a : Ex) (ha : PrE G C a) : PrI G C (.srcS a) := fun X W tg e g hp h => by
  simp only [chkI] at h
  rw [Bool.and_eq_true] at h
  refine (pi_str (ha X W e g hp h.2).1).imp ?_
  rintro σ H R ⟨U, ads, ρ, M, rel, h⟩
  simp only [evI] at h
  refine ⟨U, ads, ρ, M, rel, (Wk.bind (R := Den G) h).mono fun x H1 ⟨ext, d, M1, _, st, dx, h2⟩ => ?_⟩
  cases d with
  | str z => exact ⟨sg z, dx.1, h2 [] _ H1 (Stp.refl st.mem) ⟨rfl, dx.2⟩⟩
  | _ => exact h2.elim
theorem sm_of {i : Int} (hi : small i = true) : -(2 ^ 62) ≤ i ∧ i < 2 ^ 62 := by
  unfold small at hi
  rw [Bool.and_eq_true, decide_eq_true_eq, decide_eq_true_eq] at hi
  exact ⟨by omega, by omega⟩
theorem i_rng1 (a : Ex) (ha : PrE G C a) : PrI G C (.rng1 a) := fun X W tg e g hp h => by
  simp only [chkI] at h
  split at h
  · simp only [Bool.and_eq_true, decide_eq_true_eq] at h
    obtain ⟨⟨⟨e, h1⟩, h2⟩, h3⟩ := h
    subst e
    refine (pi_range1 (gl_of h1) g.rng (pa_cons (ha X W _ g hp h3).1 pa_nil (star_plain h2)) (star_plain h2)).imp ?_
    rintro σ H R ⟨U, ads, ρ, M, rel, h⟩
    simp only [evI] at h
    refine ⟨U, ads, ρ, M, rel, (Wk.bind (R := Den G) h).mono fun x H1 ⟨ext, d, M1, _, st, dx, h2⟩ => ?_⟩
    cases d with
    | int j =>
      by_cases q : small j = true
      · simp only [if_pos q] at h2
        exact ⟨j, by rw [show x = .int j from dx], (sm_of q).1, (sm_of q).2, h2 [] _ H1 (Stp.refl st.mem) rfl⟩
      · simp only [if_neg q] at h2
        exact h2.elim
    | _ => exact h2.elim
  · cases h
theorem i_rng2 (a b : Ex) (ha : PrE G C a) (hb : PrE G C b) : PrI G C (.rng2 a b) := fun X W tg e g hp h => by
  simp only [chkI] at h
  split at h
  · simp only [Bool.and_eq_true, decide_eq_true_eq] at h
    obtain ⟨⟨⟨⟨⟨e, h1⟩, h2⟩, h3⟩, h4⟩, h5⟩ := h
    subst e
    refine (pi_range2 (gl_of h1) g.rng (pa_cons (ha X W _ g hp h3).1 (pa_cons (hb X W _ g hp h5).1 pa_nil (star_plain h4)) (star_plain h2)) (by rw [star_plain h2, star_plain h4]; rfl) (star_plain h4)).imp ?_
    rintro σ H R ⟨U, ads, ρ, M, rel, h⟩
    simp only [evI] at h
    refine ⟨U, ads, ρ, M, rel, (Wk.bind (R := Den G) h).mono fun x H1 ⟨ext, d, M1, _, st, dx, h2⟩ => ⟨_, _, ρ, M1, rel.stp st, (Wk.bind (R := Den G) h2).mono fun y H2 ⟨ext2, d2, M2, _, st2, dy, h3⟩ => ?_⟩⟩
    cases d with
    | int i =>
      cases d2 with
      | int j =>
        by_cases q : (small i && small j) = true
        · simp only [if_pos q] at h3
          rw [Bool.and_eq_true] at q
          exact ⟨i, j, by rw [show x = .int i from dx, show y = .int j from dy], ⟨(sm_of q.1).1, (sm_of q.1).2, (sm_of q.2).1, (sm_of q.2).2⟩, h3 [] _ H2 (Stp.refl st2.mem) rfl⟩
        · simp only [if_neg q] at h3
          exact h3.elim
      | _ => exact h3.elim
    | _ => cases d2 <;> exact h3.elim
  · cases h
end
end Cy
end

section
set_option Elab.async false
set_option linter.all false
set_option maxRecDepth 100000
set_option maxHeartbeats 4000000
/-! A checked expression does what the small language says: calls, the whole. -/
namespace Cy
open PySem PySem.Spec PyProof.Rows L2

section
variable {G : Gn} {C : Cn}
theorem put_new {k : Key} {v : Vv} {pre : List (Key × Vv)} (h : ∀ kv ∈ pre, kv.1 ≠ k) : putK pre k v = pre ++ [(k, v)] := by
  unfold putK
  rw [if_neg]
  rw [List.any_eq_true]
  rintro ⟨kv, h1, h2⟩
  exact h kv h1 (of_decide_eq_true h2)
def kvOf (ks : List (List Nat)) (vs : List Vv) : List (Key × Vv) := (ks.zip vs).map fun kv => ((Sum.inr (sg kv.1) : Key), kv.2)
theorem merge_new : ∀ (ks : List (List Nat)) (vs : List Vv) (pre : List (Key × Vv)), nodupK ks = true → (∀ k ∈ ks, ∀ kv ∈ pre, kv.1 ≠ (Sum.inr (sg k) : Key)) → mergeK pre (kvOf ks vs) = pre ++ kvOf ks vs
  | [], vs, pre, _, _ => by simp [mergeK, kvOf]
  | k :: ks, [], pre, _, _ => by simp [mergeK, kvOf]
  | k :: ks, v :: vs, pre, nd, hpre => by
    have nd : (!ks.contains k && nodupK ks) = true := nd
    rw [Bool.and_eq_true] at nd
    show mergeK (putK pre (Sum.inr (sg k)) v) (kvOf ks vs) = _
    rw [put_new (hpre k List.mem_cons_self), merge_new ks vs _ nd.2 fun k' hk' kv hkv => ?_]
    · simp [kvOf]
    · rcases List.mem_append.mp hkv with z | z
      · exact hpre k' (List.mem_cons_of_mem _ hk') kv z
      · rw [List.mem_singleton.mp z]
        intro e
        have e3 := sg_inj (Sum.inr.inj e)
        subst e3
        have := nd.1
        simp at this
        exact this hk'
theorem den_kv {U ads : List Addr} {H : Hp} : ∀ (ks : List (List Nat)) (ds : List D) (vs : List Vv), ks.length = ds.length → (∀ k ∈ ks, okS k) → DenL G U ads H ds vs →
    ((ks.map fun k => V.str (sg k)).zip vs) = (kvOf ks vs).map (fun kv => (kV kv.1, kv.2)) ∧ DenD G U ads H ks ds (kvOf ks vs)
  | [], [], vs, _, _, dl => by
    cases (show vs = [] from dl)
    exact ⟨rfl, rfl, rfl⟩
  | k :: ks, d :: ds, vs, hl, hk, dl => by
    obtain ⟨v, r, e, d1, d2⟩ := dl
    subst e
    obtain ⟨i1, i2⟩ := den_kv ks ds r (by simpa using hl) (fun k' hk' => hk k' (List.mem_cons_of_mem _ hk')) d2
    refine ⟨?_, k, ks, v, _, rfl, rfl, hk k List.mem_cons_self, d1, i2⟩
    show (V.str (sg k), v) :: ((ks.map fun k => V.str (sg k)).zip r) = _
    rw [i1]
    rfl
  | [], _ :: _, _, hl, _, _ => by cases hl
  | _ :: _, [], _, hl, _, _ => by cases hl
theorem e_dsp (ks : List (List Nat)) (es : Ex) (ha : PrA G C es) : PrE G C (.dsp ks es) := fun X W e g hp h => by
  simp only [chkE] at h
  split at h
  · rename_i keys values pos
    rw [Bool.and_eq_true, Bool.and_eq_true, Bool.and_eq_true] at h
    obtain ⟨⟨⟨hd, hk⟩, hv⟩, hl⟩ := h
    have hl : keys.length = values.length := eq_of_beq hl
    obtain ⟨k1, k2, k3⟩ := keys_len hk
    obtain ⟨p1, p2, p3, p4⟩ := ha X W values g hp hv
    unfold dspC at hd
    rw [Bool.and_eq_true, Bool.and_eq_true] at hd
    have h15 := Nat.le_of_ble_eq_true hd.1.2
    have h0 : keys ≠ [] := fun z => by
      rw [z] at k1
      have : ks = [] := List.eq_nil_of_length_eq_zero k1.symm
      rw [this] at hd
      cases hd.2
    refine three_of ((pe_disp (p4 pos ks keys hk hl) k2 hl h0 (by rw [k1]; exact h15)).imp ?_) (by intro _; rfl) (by intro _ _ _ z; cases z)
    rintro σ H Q ⟨U, ads, ρ, M, rel, h⟩
    simp only [evE] at h
    intro p hp0
    have L : LO G U ads H p [] M (upd H p (.dK [])) (.dK []) := LO.begin_ rel.mem hp0
    have rel0 : Rel G (U ++ [p]) ads (upd H p (.dK [])) ρ M σ := by
      have m := L.mem
      have k := L.kp rel.mem hp0
      rw [List.append_nil] at m k
      exact ⟨m, rel.len, fun i d q => let ⟨v, a, b⟩ := rel.at_ i d q; ⟨v, a, b.kp k⟩⟩
    refine pairs_imp es ks σ _ _ (by rw [p3, ← hl, k1]) ⟨U ++ [p], ads, ρ, M, rel0, ?_⟩
    cases ha : evA C es ρ M with
    | bad => rw [ha] at h; exact h.elim
    | exc e M1 =>
      rw [ha] at h
      intro ext cls d H1 st ed
      rw [← List.append_nil ads] at st
      have L1 := L.stp hp0 (fun _ z => by cases z) st
      rw [List.nil_append] at L1
      refine h ext cls d H1 (L1.free rel.mem) ⟨ed.1, ed.2.elim .inl fun ⟨dd, gs, e1, e2, e3⟩ => .inr ⟨dd, gs, e1, e2, ?_⟩⟩
      have eU : U ++ [p] ++ ext = U ++ p :: ext := by simp
      rw [eU] at e3
      exact Flds.kp L1.less _ _ e3
    | ok ds M1 =>
      rw [ha] at h
      have h : Wk G (Den G) U ads H (if ks.length == ds.length then .ok (.dct ks ds) M1 else .bad) Q (WE W σ) := h
      intro ext vs H1 st dl
      by_cases q : (ks.length == ds.length) = true
      · rw [if_pos q] at h
        have q := eq_of_beq q
        have eU : U ++ [p] ++ ext = U ++ p :: ext := by simp
        rw [eU] at dl
        rw [← List.append_nil ads] at st
        have L1 := L.stp hp0 (fun _ z => by cases z) st
        rw [List.nil_append] at L1
        obtain ⟨e1, e2⟩ := den_kv ks ds vs q k3 dl
        refine ⟨L1.cell, _, e1, by unfold kvOf; rw [List.length_map, List.length_zip, ← dl.length, ← q, Nat.min_self]; exact h15, ?_⟩
        rw [merge_new ks vs [] hd.1.1 fun _ _ _ z => by cases z]
        have L2 := L1.write (o' := .dK ([] ++ kvOf ks vs)) hp0 (fun _ z => by cases z) (fun _ _ z => by cases z)
        refine h ext _ _ (L2.free rel.mem) ⟨p, _, rfl, .inl ⟨L2.cell, L2.notU rel.mem hp0⟩, ?_⟩
        exact DenD.kp L2.less _ _ _ (DenD.kp (L1.kw (fun _ z => by cases z) (fun _ _ z => by cases z)) _ _ _ e2)
      · rw [if_neg q] at h
        exact h.elim
  · cases h
end
end Cy
end

section
set_option Elab.async false
set_option linter.all false
set_option maxRecDepth 100000
set_option maxHeartbeats 4000000
/-! A checked expression does what the small language says: calls, the whole. -/
namespace Cy
open PySem PySem.Spec PyProof.Rows L2

section
variable {G : Gn} {C : Cn}
theorem a_none {X : Cx} {W : WX} {es : Ex} (h : chkA G.nm X.N es X.env.scope [] = true) : ∀ σ H Q, tA G C W es σ H Q → tNil σ H Q := by
  rintro σ H Q ⟨U, ads, ρ, M, rel, q⟩
  cases es with
  | nil => exact Wk.nowL q rel.mem rfl
  | cons _ _ => simp only [chkA] at h; cases h
  | _ => exact q.elim
theorem e_call (f : Nat) (es : Ex) (hs : PrA G C es) : PrE G C (.call f es) := fun X W e g hp h => by
  simp only [chkE] at h
  split at h
  · rename_i x p args pos
    rw [Bool.and_eq_true, Bool.and_eq_true] at h
    obtain ⟨⟨e1, h1⟩, h2⟩ := h
    have e1 := of_decide_eq_true e1
    subst e1
    obtain ⟨p1, p2, p3, _⟩ := hs X W args g hp h2
    by_cases hf : C.has f = true
    · obtain ⟨k, a, ⟨fd, ps, F, bd⟩, room, kp, mg⟩ := g.fn f hf
      have im : ∀ σ H Q, tE G C W (.call f es) σ H Q → tCallS (spF G (C.call f)) (WE W) (tA G C W es) σ H Q := by
        rintro σ H Q ⟨U, ads, ρ, M, rel, h⟩
        simp only [evE, if_pos hf] at h
        exact ⟨U, ads, ρ, M, rel, (Wk.bind (R := DenL G) h).mono fun vs H1 ⟨ext, ds, M1, _, st, dl, h2⟩ => ⟨_, _, M1, ds, st.mem, dl, h2⟩⟩
      cases args with
      | nil => exact three_of ((pe_call0S F room (gl_of h1) mg kp bd hp (okN_db (g.oknm f)).1).imp fun σ H Q q => a_none h2 σ H _ (im σ H Q q)) (by intro _; rfl) (by intro _ _ _ z; cases z)
      | cons e es' =>
        rw [List.all_cons, Bool.and_eq_true] at p2
        exact three_of ((pe_callS F room (gl_of h1) mg kp bd hp p1 (okN_db (g.oknm f)).1 (star_plain p2.1) (star_any p2.2)).imp im) (by intro _; rfl) (by intro _ _ _ z; cases z)
    · refine three_of (pe_no ?_) (by intro _; rfl) (by intro _ _ _ z; cases z)
      rintro σ H Q ⟨U, ads, ρ, M, rel, h⟩
      simp only [evE, if_neg hf] at h
      exact h
  · cases h
theorem flds_get {U ads : List Addr} {H : Hp} {f : Nat} : ∀ {fs : List (Nat × D)} {gs : List (Str × Vv)}, Flds G U ads H fs gs → match getF f fs with
    | none => gs.lookup (G.nm f) = none
    | some d => ∃ v, gs.lookup (G.nm f) = some v ∧ Den G U ads H d v
  | [], gs, h => by
    cases (show gs = [] from h)
    rfl
  | (k, d) :: r, gs, h => by
    obtain ⟨v, q, e, h1, h2⟩ := h
    subst e
    have ih := flds_get (f := f) h2
    by_cases hk : (k == f) = true
    · have e := eq_of_beq hk
      subst e
      unfold getF
      rw [if_pos hk]
      exact ⟨v, by rw [List.lookup_cons]; simp, h1⟩
    · unfold getF
      rw [if_neg hk]
      have hb : (G.nm f == G.nm k) = false := by
        cases q : G.nm f == G.nm k with
        | false => rfl
        | true =>
          have e := G.inj _ _ (eq_of_beq q)
          subst e
          simp at hk
      rw [List.lookup_cons, hb]
      exact ih
theorem ins_at {U ads : List Addr} {H : Hp} {M : Mem} {l c : Nat} {fs : List (Nat × D)} {x : Vv} (m : MemOk G U ads H M) (h : Den G U ads H (.obj l) x) (e : M[l]? = some (.ins c fs)) : ∃ a dx gs, x = .ref a ∧ ads[l]? = some a ∧ H a = some (.ins (G.cl c) dx gs) ∧ Flds G U ads H fs gs := by
  obtain ⟨a, e1, e2⟩ := h
  obtain ⟨dx, gs, q1, q2⟩ := m.at_ l _ a e e2
  exact ⟨a, dx, gs, e1, e2, q1, q2⟩
theorem e_meth (c m : Nat) (o es : Ex) (ho : PrE G C o) (hs : PrA G C es) : PrE G C (.meth c m o es) := fun X W e g hp h => by
  simp only [chkE] at h
  split at h
  · rename_i b x p args q
    simp only [Bool.and_eq_true, decide_eq_true_eq] at h
    obtain ⟨⟨⟨⟨⟨e1, h1⟩, h2⟩, h3⟩, h4⟩, h5⟩ := h
    subst e1
    obtain ⟨p1, p2, p3, _⟩ := hs X W args g hp h3
    have po := (ho X W b g hp h1).1
    cases hf : C.meth c m with
    | none =>
      refine three_of (pe_no ?_) (by intro _; rfl) (by intro _ _ _ z; cases z)
      rintro σ H Q ⟨U, ads, ρ, M, rel, h⟩
      simp only [evE, hf] at h
      exact h
    | some f =>
      obtain ⟨k, a, ⟨fd, ps, F, bd⟩, room, cl, mt⟩ := g.meth c m f hf
      have im : ∀ σ H Q, tE G C W (.meth c m o es) σ H Q → tMethS (G.cl c) (G.nm m) (spF G (C.call f)) (WE W) (tE G C W o) (tA G C W es) σ H Q := by
        rintro σ H Q ⟨U, ads, ρ, M, rel, h⟩
        simp only [evE, hf] at h
        refine ⟨U, ads, ρ, M, rel, (Wk.bind (R := Den G) h).mono fun x H1 ⟨ext, d, M1, _, st, dx, h2⟩ => ?_⟩
        cases d with
        | obj l =>
          cases ho : M1[l]? with
          | none => simp only [ho] at h2; exact h2.elim
          | some mo =>
            cases mo with
            | ins c' fs =>
              simp only [ho] at h2
              obtain ⟨a, dd, gs, e1, e2, e3, e4⟩ := ins_at st.mem dx ho
              have fg := flds_get (f := m) e4
              cases hg : getF m fs with
              | some _ => simp only [hg] at h2; exact h2.elim
              | none =>
                rw [hg] at fg
                simp only [hg] at h2
                by_cases hc : (c == c') = true
                · rw [if_pos hc] at h2
                  have e := eq_of_beq hc
                  subst e
                  refine ⟨a, dd, gs, e1, e3, fg, _, _, ρ, M1, rel.stp st, (Wk.bind (R := DenL G) h2).mono fun vs H2 ⟨ext2, ds, M2, _, st2, dl, h3⟩ => ?_⟩
                  exact ⟨_, _, M2, .obj l :: ds, st2.mem, ⟨x, vs, rfl, dx.stp (rel.stp st).mem st2, dl⟩, h3⟩
                · rw [if_neg hc] at h2
                  exact h2.elim
            | _ => simp only [ho] at h2; exact h2.elim
        | _ => exact h2.elim
      cases args with
      | nil => exact three_of ((pe_mS0 po cl mt F room bd hp (meth_how h2 rfl rfl h5)).imp fun σ H Q q => by
                obtain ⟨U, ads, ρ, M, rel, w⟩ := im σ H Q q
                exact ⟨U, ads, ρ, M, rel, w.mono fun x H1 ⟨a, dx, fs, q1, q2, q3, q4⟩ => ⟨a, dx, fs, q1, q2, q3, a_none h3 σ H1 _ q4⟩⟩) (by intro _; rfl) (by intro _ _ _ z; cases z)
      | cons e es' =>
        have p2' := p2
        rw [List.all_cons, Bool.and_eq_true] at p2'
        exact three_of ((pe_mS po cl mt F room bd hp p1 (star_plain p2'.1) (star_any p2'.2) (meth_how h2 p2 h4 h5)).imp im) (by intro _; rfl) (by intro _ _ _ z; cases z)
  · cases h
theorem e_mk (c : Nat) (es : Ex) (hs : PrA G C es) : PrE G C (.mk c es) := fun X W e g hp h => by
  simp only [chkE] at h
  split at h
  · rename_i x p args pos
    rw [Bool.and_eq_true, Bool.and_eq_true] at h
    obtain ⟨⟨e1, h1⟩, h2⟩ := h
    have e1 := of_decide_eq_true e1
    subst e1
    obtain ⟨p1, p2, p3, _⟩ := hs X W args g hp h2
    cases hf : C.init c with
    | none =>
      refine three_of (pe_no ?_) (by intro _; rfl) (by intro _ _ _ z; cases z)
      rintro σ H Q ⟨U, ads, ρ, M, rel, h⟩
      simp only [evE, hf] at h
      exact h
    | some f =>
      obtain ⟨k, a, ⟨fd, ps, F, bd⟩, room, mk, mg⟩ := g.init c f hf
      have im : ∀ σ H Q, tE G C W (.mk c es) σ H Q → tMkS (G.cl c) (spF G (C.call f)) (WE W) (tA G C W es) σ H Q := by
        rintro σ H Q ⟨U, ads, ρ, M, rel, h⟩
        simp only [evE, hf] at h
        refine ⟨U, ads, ρ, M, rel, (Wk.bind (R := DenL G) h).mono fun vs H1 ⟨ext, ds, M1, _, st, dl, h2⟩ => fun x dx hx hdx hne => ?_⟩
        have rel1 := rel.stp st
        have s1 : Stp G (U ++ ext) (ads ++ ext) H1 [] M1 (upd H1 dx (.own x)) := Stp.laid st.mem hdx
        have m1 := s1.mem
        simp only [List.append_nil] at m1
        have hx1 : upd H1 dx (.own x) x = none := (upd_ne (fun e => hne e.symm)).trans hx
        have s2 : Stp G (U ++ ext) (ads ++ ext) (upd H1 dx (.own x)) [x] (M1 ++ [.ins c []]) (upd (upd H1 dx (.own x)) x (.ins (G.cl c) dx [])) := Stp.grow m1 hx1 ⟨dx, [], upd_same, rfl⟩
        rw [← List.append_nil (U ++ ext), ← List.append_nil (ads ++ ext)] at s2
        have s3 := s1.trans s2
        rw [List.nil_append] at s3
        have lab : (ads ++ ext ++ [x])[M1.length]? = some x := by
          rw [List.getElem?_append_right (by rw [st.mem.len]; exact Nat.le_refl _), st.mem.len]
          simp
        refine ⟨_, _, M1 ++ [.ins c []], .obj M1.length :: ds, s3.mem, ⟨_, vs, rfl, ⟨x, rfl, lab⟩, dl.stp st.mem s3⟩, (Wk.bind (R := Den G) (Wk.shift h2 s3)).mono fun v H2 ⟨ext2, d, M2, _, st2, dv, h3⟩ => ?_⟩
        by_cases q : isNon d = true
        · rw [if_pos q] at h3
          cases d with
          | non => exact ⟨dv, Wk.now h3 st2.mem ((show Den G _ _ _ (.obj M1.length) (.ref x) from ⟨x, rfl, lab⟩).stp s3.mem st2)⟩
          | _ => cases q
        · rw [if_neg q] at h3
          exact h3.elim
      cases args with
      | nil => exact three_of ((pe_mkS0 mk F room (gl_of h1) mg bd hp (okN_db (g.oknm c)).1).imp fun σ H Q q => a_none h2 σ H _ (im σ H Q q)) (by intro _; rfl) (by intro _ _ _ z; cases z)
      | cons e es' =>
        rw [List.all_cons, Bool.and_eq_true] at p2
        exact three_of ((pe_mkS mk F room (gl_of h1) mg bd hp p1 (okN_db (g.oknm c)).1 (star_plain p2.1) (star_any p2.2)).imp im) (by intro _; rfl) (by intro _ _ _ z; cases z)
  · cases h
theorem e_bi (b : Bi) (es : Ex) (hs : PrA G C es) : PrE G C (.bi b es) := fun X W e g hp h => by
  simp only [chkE] at h
  split at h
  · rename_i x p args pos
    simp only [Bool.and_eq_true, decide_eq_true_eq] at h
    obtain ⟨⟨⟨e1, h1⟩, h2⟩, h3⟩ := h
    subst e1
    obtain ⟨p1, p2, p3, _⟩ := hs X W args g hp h2
    cases args with
    | nil => cases h3
    | cons e es' =>
      rw [List.all_cons, Bool.and_eq_true] at p2
      have R := biG g.K g.calm b
      have im := arg_imp (G := G) (C := C) (W := W) (a := es) (f := bi b) (ie := .bi b es) fun _ _ => rfl
      have bt := boot_bi b
      have mg := g.bi b
      have n1 : (biName b == ("__debug__" : Str)) = false := by cases b <;> decide
      have n2 : biName b ≠ "__name__" := by cases b <;> decide
      refine three_of (PE.imp (t := tCB (rArg G (bi b)) (tA G C W es)) ?_ im) (by intro _; rfl) (by intro _ _ _ z; cases z)
      have s1 := star_plain (es := es') (env := X.env) p2.1
      have s2 := star_any (pos := pos) (env := X.env) p2.2
      cases b <;> first | exact pe_callB R (gl_of h1) mg bt p1 n2 n1 s1 s2 | exact pe_callTy R (gl_of h1) mg bt p1 n2 n1 s1 s2
  · cases h
theorem e_bm (b : Bm) (o es : Ex) (ho : PrE G C o) (hs : PrA G C es) : PrE G C (.bm b o es) := fun X W e g hp h => by
  simp only [chkE] at h
  split at h
  · rename_i c x p args q
    simp only [Bool.and_eq_true, decide_eq_true_eq] at h
    obtain ⟨⟨⟨⟨⟨e1, h1⟩, h2⟩, h3⟩, h4⟩, h5⟩ := h
    subst e1
    obtain ⟨p1, p2, p3, _⟩ := hs X W args g hp h3
    have po := (ho X W c g hp h1).1
    have im : ∀ σ H Q, tE G C W (.bm b o es) σ H Q → tBM X.K (bmT b) (rMt G b) (tE G C W o) (tA G C W es) σ H Q := by
      rintro σ H Q ⟨U, ads, ρ, M, rel, h⟩
      simp only [evE] at h
      refine ⟨U, ads, ρ, M, rel, (Wk.bind (R := Den G) h).mono fun x H1 ⟨ext, d, M1, _, st, dx, h2⟩ => ?_⟩
      by_cases q : bmOk b d M1 = true
      · rw [if_pos q] at h2
        refine ⟨bmTy g.K st.mem dx q, _, _, ρ, M1, rel.stp st, (Wk.bind (R := DenL G) h2).mono fun vs H2 ⟨ext2, ds, M2, _, st2, dl, h3⟩ => ?_⟩
        exact ⟨_, _, M2, d, ds, _, st2.mem, dx.stp (rel.stp st).mem st2, dl, h3⟩
      · rw [if_neg q] at h2
        exact h2.elim
    have R := bmG (X := X) g.K g.calm b
    refine three_of ?_ (by intro _; rfl) (by intro _ _ _ z; cases z)
    cases args with
    | nil =>
      have im0 : ∀ σ H Q, tE G C W (.bm b o es) σ H Q → tBM0 X.K (bmT b) (rMt G b) (tE G C W o) σ H Q := fun σ H Q q => by
        obtain ⟨U, ads, ρ, M, rel, w⟩ := im σ H Q q
        exact ⟨U, ads, ρ, M, rel, w.mono fun x H1 ⟨a, r⟩ => ⟨a, a_none h3 σ H1 _ r⟩⟩
      refine PE.imp ?_ im0
      cases b with
      | append => exact pe_bm0 PySem.F.plainAttrs_list PySem.F.slot_list_append PySem.F.type_list_append R po (base_ok h2) h5
      | pop => exact pe_bm0 PySem.F.plainAttrs_list PySem.F.slot_list_pop PySem.F.type_list_pop R po (base_ok h2) h5
      | join => exact pe_bm0 PySem.F.plainAttrs_str PySem.F.slot_str_join PySem.F.type_str_join R po (base_ok h2) h5
      | sindex => exact pe_bm0 PySem.F.plainAttrs_str PySem.F.slot_str_index PySem.F.type_str_index R po (base_ok h2) h5
      | replace => exact pe_bm0 PySem.F.plainAttrs_str PySem.F.slot_str_replace PySem.F.type_str_replace R po (base_ok h2) h5
    | cons e es' =>
      have p2' := p2
      rw [List.all_cons, Bool.and_eq_true] at p2'
      refine PE.imp ?_ im
      have s1 := star_plain (es := es') (env := X.env) p2'.1
      have s2 := star_any (pos := q) (env := X.env) p2'.2
      have s3 := few_ok (pos := q) (env := X.env) p2 h4
      cases b with
      | append => exact pe_bm PySem.F.plainAttrs_list PySem.F.slot_list_append PySem.F.type_list_append R po p1 (base_ok h2) s3 h5 s1 s2
      | pop => exact pe_bm PySem.F.plainAttrs_list PySem.F.slot_list_pop PySem.F.type_list_pop R po p1 (base_ok h2) s3 h5 s1 s2
      | join => exact pe_bm PySem.F.plainAttrs_str PySem.F.slot_str_join PySem.F.type_str_join R po p1 (base_ok h2) s3 h5 s1 s2
      | sindex => exact pe_bm PySem.F.plainAttrs_str PySem.F.slot_str_index PySem.F.type_str_index R po p1 (base_ok h2) s3 h5 s1 s2
      | replace => exact pe_bm PySem.F.plainAttrs_str PySem.F.slot_str_replace PySem.F.type_str_replace R po p1 (base_ok h2) s3 h5 s1 s2
  · cases h
theorem e_fld (f : Nat) (o : Ex) (ho : PrE G C o) : PrE G C (.fld f o) := fun X W e g hp h => by
  simp only [chkE] at h
  split at h
  · simp only [Bool.and_eq_true, decide_eq_true_eq] at h
    obtain ⟨⟨e1, h1⟩, h2⟩ := h
    subst e1
    refine three_of ((pe_fld (ho X W _ g hp h1).1 (base_ok h2)).imp ?_) (by intro _; rfl) (by intro _ _ _ z; cases z)
    rintro σ H Q ⟨U, ads, ρ, M, rel, h⟩
    simp only [evE] at h
    refine ⟨U, ads, ρ, M, rel, (Wk.bind (R := Den G) h).mono fun x H1 ⟨ext, d, M1, _, st, dx, h2⟩ => ?_⟩
    cases d with
    | obj l =>
      cases ho : M1[l]? with
      | none => simp only [ho] at h2; exact h2.elim
      | some mo =>
        cases mo with
        | ins c fs =>
          simp only [ho] at h2
          obtain ⟨a, dd, gs, e1, e2, e3, e4⟩ := ins_at st.mem dx ho
          have fg := flds_get (f := f) e4
          cases hg : getF f fs with
          | none => simp only [hg] at h2; exact h2.elim
          | some y =>
            rw [hg] at fg
            simp only [hg] at h2
            by_cases hc : C.att c f = true
            · rw [if_pos hc] at h2
              obtain ⟨v, f1, f2⟩ := fg
              obtain ⟨c1, c2⟩ := g.att c f hc
              exact ⟨a, G.cl c, dd, gs, v, e1, e3, c1, c2, f1, Wk.now h2 st.mem f2⟩
            · rw [if_neg hc] at h2
              exact h2.elim
        | _ => simp only [ho] at h2; exact h2.elim
    | _ => exact h2.elim
  · cases h
end
end Cy
end

section
set_option Elab.async false
set_option linter.all false
set_option maxRecDepth 100000
set_option maxHeartbeats 4000000
/-! isinstance; a call in an empty memory. -/
namespace Cy
open PySem PySem.Spec PyProof.Rows L2
section
variable {G : Gn} {C : Cn}
theorem boot_ty : ∀ t : Cy.Ty, bootBuiltins (tyName t) = some (.type (tyV_ t)) := by
  intro t
  cases t <;> kernel_rfl
theorem boot_isi : bootBuiltins "isinstance" = some (.builtin "isinstance") := by kernel_rfl
theorem kitT (a b : Option Bool) (c : Option Bool) (h : a = c) (e : b = c) : a = b := h.trans e.symm
theorem isa_ok {X : Cx} (hK : G.K = X.K) (t : Cy.Ty) : CallR X (.builtin "isinstance") (fun xs H Q => ∃ x, xs = [x, .ty (tyV_ t)] ∧ ∃ U ads M d E, MemOk G U ads H M ∧ Den G U ads H d x ∧ Wk G (Den G) U ads H (match isaB t (view M d) with
    | some b => (.ok (.bl b) M : Res D)
    | none => .bad) Q E) := by
  intro pins s σ H xs us Q I r h
  obtain ⟨x, e, U, ads, M, d, E, m, hd, h⟩ := h
  refine call_isi pins s σ H xs us Q I r ?_
  have fin : ∀ (a : String), TyX X.K H x (.type a) → kitB a (tyV_ t) = isaB t (view M d) → rIsi X.K xs H Q := fun a h1 h2 => by
    cases hb : isaB t (view M d) with
    | none => rw [hb] at h; exact h.elim
    | some b =>
      rw [hb] at h h2
      exact ⟨x, .ty (tyV_ t), .type a, .type (tyV_ t), b, e, .ty _, h1, kit_ty h2, Wk.now h m rfl⟩
  have seqT : ∀ a vs, SqT X.K H a vs → TyX X.K H (.ref a) (.type "tuple") := fun a vs q => by
    rcases q with (q | ⟨o, q⟩) | ⟨o, its, n, q1, q2, _⟩
    · exact .base (.tup q)
    · exact .fTuple q
    · exact .kTuple q1 q2
  cases hv : view M d with
  | non =>
    have e1 := view_eq hv (fun _ z => by cases z) (fun _ z => by cases z)
    subst e1
    cases (show x = .non from hd)
    cases t <;> exact fin "NoneType" (.base .non) (by rw [hv]; first | exact kitT _ _ (some true) (by decide +kernel) rfl | exact kitT _ _ (some false) (by decide +kernel) rfl)
  | bl b =>
    have e1 := view_eq hv (fun _ z => by cases z) (fun _ z => by cases z)
    subst e1
    cases (show x = .bl b from hd)
    cases t <;> exact fin "bool" (.base (.bl b)) (by rw [hv]; first | exact kitT _ _ (some true) (by decide +kernel) rfl | exact kitT _ _ (some false) (by decide +kernel) rfl)
  | int i =>
    cases (view_int hd hv)
    cases t <;> exact fin "int" (.base (.int i)) (by rw [hv]; first | exact kitT _ _ (some true) (by decide +kernel) rfl | exact kitT _ _ (some false) (by decide +kernel) rfl)
  | str z =>
    obtain ⟨ex, _⟩ := view_str hd hv
    subst ex
    cases t <;> exact fin "str" (.base (.str _)) (by rw [hv]; first | exact kitT _ _ (some true) (by decide +kernel) rfl | exact kitT _ _ (some false) (by decide +kernel) rfl)
  | tup ys =>
    obtain ⟨a, vs, ex, ra, _⟩ := view_tup hd hv
    subst ex
    have ty := seqT a vs (by rw [← hK]; exact ra)
    cases t <;> exact fin "tuple" ty (by rw [hv]; first | exact kitT _ _ (some true) (by decide +kernel) rfl | exact kitT _ _ (some false) (by decide +kernel) rfl)
  | lst ys =>
    obtain ⟨a, vs, ex, ra, _⟩ := view_lst m hd hv
    subst ex
    have ty : TyX X.K H (.ref a) (.type "list") := by
      rcases ra with (ra | ⟨o, ra⟩) | ⟨o, its, n, q1, q2, _⟩
      · exact .base (.lst ra)
      · exact .base (.frz ra)
      · rw [hK] at q1
        exact .kList q1 q2
    cases t <;> exact fin "list" ty (by rw [hv]; first | exact kitT _ _ (some true) (by decide +kernel) rfl | exact kitT _ _ (some false) (by decide +kernel) rfl)
  | dct ks ds =>
    obtain ⟨a, kvs, ex, ha, _⟩ := view_dct hd hv
    subst ex
    have ty : TyX X.K H (.ref a) (.type "dict") := by
      rcases ha with ha | ⟨⟨es, n, kd⟩, _⟩
      · exact .base (.dK ha)
      · rw [hK] at kd
        exact .kDict kd.at_ rfl
    cases t <;> exact fin "dict" ty (by rw [hv]; first | exact kitT _ _ (some true) (by decide +kernel) rfl | exact kitT _ _ (some false) (by decide +kernel) rfl)
  | obj l => rw [hv] at h; cases t <;> exact h.elim
theorem e_isa (t : Cy.Ty) (a : Ex) (ha : PrE G C a) : PrE G C (.isa t a) := fun X W e g hp h => by
  simp only [chkE] at h
  split at h
  · rename_i x p l y p2 pos
    simp only [Bool.and_eq_true, decide_eq_true_eq] at h
    obtain ⟨⟨⟨⟨⟨e1, h1⟩, e2⟩, h2⟩, h3⟩, h4⟩ := h
    subst e1
    subst e2
    have d1 : (tyName t == ("__debug__" : Str)) = false := by cases t <;> decide
    have d2 : tyName t ≠ "__name__" := by cases t <;> decide
    have pt : PE X (.Name (tyName t) p2) (tC (.ty (tyV_ t))) := pe_bltn (gl_of h2) (g.ty t) (boot_ty t) rfl d2 d1
    have pa : PA X [l, .Name (tyName t) p2] _ := pa_cons (ha X W l g hp h3).1 (pa_cons pt pa_nil) (star_plain h4)
    refine three_of ((pe_callB (isa_ok (G := G) g.K t) (gl_of h1) g.isi boot_isi pa (by decide) (by decide) (star_plain h4) rfl).imp ?_) (by intro _; rfl) (by intro _ _ _ z; cases z)
    rintro σ H Q ⟨U, ads, ρ, M, rel, h⟩
    simp only [evE] at h
    refine ⟨U, ads, ρ, M, rel, (Wk.bind (R := Den G) h).mono fun x H1 ⟨ext, d, M1, _, st, dx, h2⟩ => ?_⟩
    exact ⟨x, rfl, _, _, M1, d, _, st.mem, dx, h2⟩
  · cases h
/-! ### a call in an empty memory -/
mutual
theorem den_pure {U U' ads ads' : List Addr} {H : Hp} (sub : ∀ a, a ∈ U' → a ∈ U) : ∀ (d : D) (v : Vv), D.pure d = true → Den G U ads H d v → Den G U' ads' H d v
  | .non, _, _, h => h
  | .bl _, _, _, h => h
  | .int _, _, _, h => h
  | .str _, _, _, h => h
  | .tup xs, v, p, h => by
    obtain ⟨a, vs, e, q, r⟩ := h
    exact ⟨a, vs, e, q, denL_pure sub xs vs p r⟩
  | .lst xs, v, p, h => by
    obtain ⟨a, vs, e, q, r⟩ := h
    exact ⟨a, vs, e, q.imp (fun w => ⟨w.1, fun z => w.2 (sub a z)⟩) id, denL_pure sub xs vs p r⟩
  | .dct ks ds, v, p, h => by
    obtain ⟨a, kvs, e, q, r⟩ := h
    exact ⟨a, kvs, e, q.imp (fun w => ⟨w.1, fun z => w.2 (sub a z)⟩) id, denD_pure sub ks ds kvs p r⟩
  | .obj _, _, p, _ => by cases p
theorem denL_pure {U U' ads ads' : List Addr} {H : Hp} (sub : ∀ a, a ∈ U' → a ∈ U) : ∀ (ds : List D) (vs : List Vv), D.pureL ds = true → DenL G U ads H ds vs → DenL G U' ads' H ds vs
  | [], _, _, h => h
  | d :: ds, _, p, h => by
    have p : (D.pure d && D.pureL ds) = true := p
    rw [Bool.and_eq_true] at p
    obtain ⟨v, r, e, h1, h2⟩ := h
    exact ⟨v, r, e, den_pure sub d v p.1 h1, denL_pure sub ds r p.2 h2⟩
theorem denD_pure {U U' ads ads' : List Addr} {H : Hp} (sub : ∀ a, a ∈ U' → a ∈ U) : ∀ (ks : List (List Nat)) (ds : List D) (kvs : List (Key × Vv)), D.pureL ds = true → DenD G U ads H ks ds kvs → DenD G U' ads' H ks ds kvs
  | _, [], _, _, h => h
  | _, d :: ds, _, p, h => by
    have p : (D.pure d && D.pureL ds) = true := p
    rw [Bool.and_eq_true] at p
    obtain ⟨c, kr, v, r, e1, e2, h0, h1, h2⟩ := h
    exact ⟨c, kr, v, r, e1, e2, h0, den_pure sub d v p.1 h1, denD_pure sub kr ds r p.2 h2⟩
end
theorem flds_pure {U U' ads ads' : List Addr} {H : Hp} (sub : ∀ a, a ∈ U' → a ∈ U) : ∀ (fs : List (Nat × D)) (gs : List (Str × Vv)), fs.all (fun p => D.pure p.2) = true → Flds G U ads H fs gs → Flds G U' ads' H fs gs
  | [], _, _, h => h
  | (f, d) :: r, _, p, h => by
    rw [List.all_cons, Bool.and_eq_true] at p
    obtain ⟨v, q, e, h1, h2⟩ := h
    exact ⟨v, q, e, den_pure sub d v p.1 h1, flds_pure sub r q p.2 h2⟩
theorem pcall_ok {U ads : List Addr} {H : Hp} {M : Mem} {f : Nat} {ds : List D} {vs : List Vv} {Q : VK} {E : XK} (m : MemOk G U ads H M) (dl : DenL G U ads H ds vs) (hp : D.pureL ds = true) (h : Wk G (Den G) U ads H (pcall C f ds M) Q E) : spF G (C.call f) vs H Q E := by
  refine ⟨U, [], [], ds, ⟨rfl, List.nodup_nil, fun _ z => (by cases z), m.trk, fun l o a e _ => (by simp at e)⟩, denL_pure (fun _ z => z) ds vs hp dl, ?_⟩
  unfold pcall at h
  have back : ∀ {ext : List Addr} {M1 : Mem} {H' : Hp}, Stp G U [] H ext M1 H' → Stp G U ads H [] M H' := fun {ext M1 H'} s => by
    have k : Kp G U ads H (U ++ []) (ads ++ []) H' := Kp.of m (fun _ z => (by cases z)) fun a o q _ t => s.keep a o q (by simp) t
    refine ⟨fun _ z => (by cases z), fun a o q _ t => s.keep a o q (by simp) t, s.dom, ?_⟩
    have same : ∀ a ∈ ads, H' a = H a := fun a ha => by
      obtain ⟨l, hl, q⟩ := List.getElem_of_mem ha
      have hl2 : l < M.length := by rw [← m.len]; exact hl
      have z := m.at_ l _ a (List.getElem?_eq_getElem hl2) (by rw [List.getElem?_eq_getElem hl, q])
      cases ho : M[l] with
      | lst ys => rw [ho] at z; obtain ⟨vs, z, _⟩ := z; rw [z]; exact s.keep a _ z (by simp) (fun _ z => by cases z)
      | ins c fs => rw [ho] at z; obtain ⟨dx, gs, z, _⟩ := z; rw [z]; exact s.keep a _ z (by simp) (fun _ z => by cases z)
      | dct ks vs => rw [ho] at z; obtain ⟨kvs, z, _⟩ := z; rw [z]; exact s.keep a _ z (by simp) (fun _ z => by cases z)
    simp only [List.append_nil] at k ⊢
    exact m.kp k same m.sub fun a ha => s.dom a (m.trk a ha)
  cases hc : C.call f ds [] with
  | bad => rw [hc] at h; exact h
  | ok r M1 =>
    rw [hc] at h
    intro ext b H' s hb
    have h : Wk G (Den G) U ads H (if D.pure r then .ok r M else .bad) Q E := h
    by_cases q : D.pure r = true
    · rw [if_pos q] at h
      refine h [] b H' (back s) ?_
      simp only [List.append_nil]
      exact den_pure (fun a z => List.mem_append_left _ z) r b q hb
    · rw [if_neg q] at h
      exact h.elim
  | exc e M1 =>
    rw [hc] at h
    intro ext cls d H' s he
    have h : Wk G (Den G) U ads H (if e.fs.all (fun p => D.pure p.2) then .exc e M else .bad) Q E := h
    by_cases q : (e.fs.all fun p => D.pure p.2) = true
    · rw [if_pos q] at h
      refine h [] cls d H' (back s) ⟨he.1, he.2.elim .inl fun ⟨dd, gs, e1, e2, e3⟩ => .inr ⟨dd, gs, e1, e2, ?_⟩⟩
      simp only [List.append_nil]
      exact flds_pure (fun a z => List.mem_append_left _ z) _ _ q e3
    · rw [if_neg q] at h
      exact h.elim
theorem e_pcall (f : Nat) (es : Ex) (hs : PrA G C es) : PrE G C (.pcall f es) := fun X W e g hp h => by
  simp only [chkE] at h
  split at h
  · rename_i x p args pos
    rw [Bool.and_eq_true, Bool.and_eq_true] at h
    obtain ⟨⟨e1, h1⟩, h2⟩ := h
    have e1 := of_decide_eq_true e1
    subst e1
    obtain ⟨p1, p2, p3, _⟩ := hs X W args g hp h2
    by_cases hf : C.has f = true
    · obtain ⟨k, a, ⟨fd, ps, F, bd⟩, room, kp, mg⟩ := g.fn f hf
      have im : ∀ σ H Q, tE G C W (.pcall f es) σ H Q → tCallS (spF G (C.call f)) (WE W) (tA G C W es) σ H Q := by
        rintro σ H Q ⟨U, ads, ρ, M, rel, h⟩
        simp only [evE, if_pos hf] at h
        refine ⟨U, ads, ρ, M, rel, (Wk.bind (R := DenL G) h).mono fun vs H1 ⟨ext, ds, M1, _, st, dl, h2⟩ => ?_⟩
        by_cases q : D.pureL ds = true
        · rw [if_pos q] at h2
          exact pcall_ok st.mem dl q h2
        · rw [if_neg q] at h2
          exact h2.elim
      cases args with
      | nil => exact three_of ((pe_call0S F room (gl_of h1) mg kp bd hp (okN_db (g.oknm f)).1).imp fun σ H Q q => a_none h2 σ H _ (im σ H Q q)) (by intro _; rfl) (by intro _ _ _ z; cases z)
      | cons e es' =>
        rw [List.all_cons, Bool.and_eq_true] at p2
        exact three_of ((pe_callS F room (gl_of h1) mg kp bd hp p1 (okN_db (g.oknm f)).1 (star_plain p2.1) (star_any p2.2)).imp im) (by intro _; rfl) (by intro _ _ _ z; cases z)
    · refine three_of (pe_no ?_) (by intro _; rfl) (by intro _ _ _ z; cases z)
      rintro σ H Q ⟨U, ads, ρ, M, rel, h⟩
      simp only [evE, if_neg hf] at h
      exact h
  · cases h
end
end Cy
end

section
set_option Elab.async false
set_option linter.all false
set_option maxRecDepth 100000
set_option maxHeartbeats 4000000
/-! A checked expression does what the small language says: the whole. -/
namespace Cy
open PySem PySem.Spec PyProof.Rows L2

section
variable {G : Gn} {C : Cn}
theorem own_slots (N : List Str) (t : Tg) : (ownOf N t).map (·.2) = t.slots := by
  unfold ownOf
  rw [List.map_map]
  exact List.map_id' _
/-- what a comprehension over t asks, as an expression, as what is assigned -/
theorem lc_parts {l : Bool} {t : Tg} {it c e : Ex} (hi : PrI G C it) (hc : PrE G C c) (he : PrE G C e) {X : Cx} {W : WX} {elt tg iter : Expr} {ifs : List Expr} {scope : Scope} (g : Gx G C X) (hp : Pas X W)
    (h1 : chkI G.nm X.N it X.env.scope iter = true) (h2 : blkC X.N X.env.scope scope (ownOf X.N t) = true) (h3 : chkTg X.N (relS scope X.env.scope) (fun x => scope.names.lookup x == some .cell) t tg = true)
    (h4 : (match ifs with
        | [] => isYes c
        | [cond] => chkE G.nm X.N c (relS scope X.env.scope) cond
        | _ => false) = true) (h5 : chkE G.nm X.N e (relS scope X.env.scope) elt = true) :
    ∃ tt, PI X tg iter (tI G C W it) ∧ BlkOk X.N X.env.scope scope (ownOf X.N t) ∧
      (∀ (s : Shared) (H : Hp) (K : Addr) (cl : List (Str × Addr)) (fp : List Addr), PG (X.blk s H scope (compEnvC scope cl K X.env) fp) tg (gT X.K t)) ∧
      (∀ (s : Shared) (H : Hp) (K : Addr) (cl : List (Str × Addr)) (fp : List Addr), PTs (X.blk s H scope (compEnvC scope cl K X.env) fp) ifs tt) ∧
      (∀ (s : Shared) (H : Hp) (K : Addr) (cl : List (Str × Addr)) (fp : List Addr), PE (X.blk s H scope (compEnvC scope cl K X.env) fp) elt (tE G C wNo e)) ∧ (∀ x, foldedSetIterable iter X.env x = pure x) ∧
      ∀ σ H Q, tE G C W (.comp l t it c e) σ H Q → tLc (tI G C W it) (gT X.K t) tt (tE G C wNo e) ((ownOf X.N t).map (·.2)) σ H Q := by
  have fold : ∀ x, foldedSetIterable iter X.env x = pure x := by
    cases it with
    | src a =>
      simp only [chkI] at h1
      rw [Bool.and_eq_true] at h1
      exact fold_plain h1.1
    | srcS a =>
      simp only [chkI] at h1
      rw [Bool.and_eq_true] at h1
      exact fold_plain h1.1
    | rng1 a =>
      simp only [chkI] at h1
      split at h1
      · exact fun _ => rfl
      · cases h1
    | rng2 a b =>
      simp only [chkI] at h1
      split at h1
      · exact fun _ => rfl
      · cases h1
    | _ => cases h1
  have main : ∀ tt : TT, (∀ σ H Q, tB (tE G C wNo c) σ H Q → tt σ H Q) → ∀ σ H Q, tE G C W (.comp l t it c e) σ H Q → tLc (tI G C W it) (gT X.K t) tt (tE G C wNo e) ((ownOf X.N t).map (·.2)) σ H Q := by
    rintro tt htt σ H Q ⟨U, ads, ρ, M, rel, h⟩
    simp only [evE] at h
    rw [own_slots]
    refine ⟨U, ads, ρ, M, rel, (Wk.bind (R := SrcD G) h).mono fun J H1 ⟨ext, s, M1, _, st, hs, q⟩ => ?_⟩
    cases hk : s.size M1 with
    | none => simp only [hk] at q; exact q.elim
    | some k =>
      simp only [hk] at q
      intro D hD
      rw [← g.K]
      exact comp_ok (rel.stp st) hs q htt D hD
  cases ifs with
  | nil =>
    refine ⟨tYes, hi X W tg iter g hp h1, blkOk_by h2, fun s H K cl fp => pgT g.nd g.calm h3, fun _ _ _ _ _ => pts_nil, fun s H K cl fp => (he _ wNo elt g.blk pas_blk h5).1, fold, main _ ?_⟩
    have e : c = .cB true := by
      cases c with
      | cB b => cases b with
        | true => rfl
        | false => cases h4
      | _ => cases h4
    subst e
    rintro σ H Q ⟨U, ads, ρ, M, rel, q⟩
    simp only [evE] at q
    obtain ⟨b, e, w⟩ := Wk.now q rel.mem (show Den G U ads H (.bl true) (.bl true) from rfl)
    cases e
    exact w
  | cons cond r =>
    cases r with
    | cons _ _ => cases h4
    | nil =>
      exact ⟨_, hi X W tg iter g hp h1, blkOk_by h2, fun s H K cl fp => pgT g.nd g.calm h3, fun s H K cl fp => pts_one (hc _ wNo cond g.blk pas_blk h4).2.1, fun s H K cl fp => (he _ wNo elt g.blk pas_blk h5).1, fold, main _ fun _ _ _ q => q⟩
theorem e_comp (l : Bool) (t : Tg) (it c e : Ex) (hi : PrI G C it) (hc : PrE G C c) (he : PrE G C e) : PrE G C (.comp l t it c e) := fun X W a g hp h => by
  simp only [chkE] at h
  split at h
  · rename_i elt tg iter ifs k scope pos
    simp only [Bool.and_eq_true, decide_eq_true_eq] at h
    obtain ⟨⟨⟨⟨⟨e0, h1⟩, h2⟩, h3⟩, h4⟩, h5⟩ := h
    subst e0
    obtain ⟨tt, q1, q2, q3, q4, q5, q6, q7⟩ := lc_parts (l := l) hi hc he g hp h1 h2 h3 h4 h5
    exact three_of ((pe_lc g.calm g.nd q1 q2 q3 q4 q5 q6).imp q7) (by intro _; rfl) (by intro _ _ _ z; cases z)
  · cases h

theorem no_E {ie : Ex} (h : ∀ nm N sc a, chkE nm N ie sc a = false) : PrE G C ie := fun X W a g hp q => by rw [h] at q; cases q
theorem no_A {ie : Ex} (h : ∀ nm N sc a, chkA nm N ie sc a = false) : PrA G C ie := fun X W a g hp q => by rw [h] at q; cases q
theorem no_P {ie : Ex} (h : ∀ nm N sc a, chkP nm N ie sc a = false) : PrP G C ie := fun X W a g hp q => by rw [h] at q; cases q
theorem no_I {ie : Ex} (h : ∀ nm N sc a, chkI nm N ie sc a = false) : PrI G C ie := fun X W tg a g hp q => by rw [h] at q; cases q
theorem all4 (G : Gn) (C : Cn) (ie : Ex) : PrE G C ie ∧ PrA G C ie ∧ PrP G C ie ∧ PrI G C ie := by
  induction ie with
  | var i => exact ⟨e_var i, no_A fun _ _ _ _ => rfl, no_P fun _ _ _ _ => rfl, no_I fun _ _ _ _ => rfl⟩
  | cN => exact ⟨e_cN, no_A fun _ _ _ _ => rfl, no_P fun _ _ _ _ => rfl, no_I fun _ _ _ _ => rfl⟩
  | cB b => exact ⟨e_cB b, no_A fun _ _ _ _ => rfl, no_P fun _ _ _ _ => rfl, no_I fun _ _ _ _ => rfl⟩
  | cI i => exact ⟨e_cI i, no_A fun _ _ _ _ => rfl, no_P fun _ _ _ _ => rfl, no_I fun _ _ _ _ => rfl⟩
  | cS s => exact ⟨e_cS s, no_A fun _ _ _ _ => rfl, no_P fun _ _ _ _ => rfl, no_I fun _ _ _ _ => rfl⟩
  | gl x => exact ⟨e_gl x, no_A fun _ _ _ _ => rfl, no_P fun _ _ _ _ => rfl, no_I fun _ _ _ _ => rfl⟩
  | bin o a b ha hb => exact ⟨e_bin o a b ha.1 hb.1, no_A fun _ _ _ _ => rfl, no_P fun _ _ _ _ => rfl, no_I fun _ _ _ _ => rfl⟩
  | neg a ha => exact ⟨e_neg a ha.1, no_A fun _ _ _ _ => rfl, no_P fun _ _ _ _ => rfl, no_I fun _ _ _ _ => rfl⟩
  | cmp o a b ha hb => exact ⟨e_cmp o a b ha.1 hb.1, no_A fun _ _ _ _ => rfl, no_P fun _ _ _ _ => rfl, no_I fun _ _ _ _ => rfl⟩
  | ch2 o p a b c ha hb hc => exact ⟨e_ch2 o p a b c ha.1 hb.1 hc.1, no_A fun _ _ _ _ => rfl, no_P fun _ _ _ _ => rfl, no_I fun _ _ _ _ => rfl⟩
  | ch3 o p q a b c d ha hb hc hd => exact ⟨e_ch3 o p q a b c d ha.1 hb.1 hc.1 hd.1, no_A fun _ _ _ _ => rfl, no_P fun _ _ _ _ => rfl, no_I fun _ _ _ _ => rfl⟩
  | and a b ha hb => exact ⟨e_and a b ha.1 hb.1, no_A fun _ _ _ _ => rfl, no_P fun _ _ _ _ => rfl, no_I fun _ _ _ _ => rfl⟩
  | or a b ha hb => exact ⟨e_or a b ha.1 hb.1, no_A fun _ _ _ _ => rfl, no_P fun _ _ _ _ => rfl, no_I fun _ _ _ _ => rfl⟩
  | not a ha => exact ⟨e_not a ha.1, no_A fun _ _ _ _ => rfl, no_P fun _ _ _ _ => rfl, no_I fun _ _ _ _ => rfl⟩
  | ite c a b hc ha hb => exact ⟨e_ite c a b hc.1 ha.1 hb.1, no_A fun _ _ _ _ => rfl, no_P fun _ _ _ _ => rfl, no_I fun _ _ _ _ => rfl⟩
  | nil => exact ⟨no_E fun _ _ _ _ => rfl, a_nil, p_nil, no_I fun _ _ _ _ => rfl⟩
  | cons e es he hs => exact ⟨no_E fun _ _ _ _ => rfl, a_cons e es he.1 hs.2.1, p_cons e es he.1, no_I fun _ _ _ _ => rfl⟩
  | tup es hs => exact ⟨e_tup es hs.2.1, no_A fun _ _ _ _ => rfl, no_P fun _ _ _ _ => rfl, no_I fun _ _ _ _ => rfl⟩
  | lst l es hs => exact ⟨e_lst l es hs.2.1, no_A fun _ _ _ _ => rfl, no_P fun _ _ _ _ => rfl, no_I fun _ _ _ _ => rfl⟩
  | dsp ks es hs => exact ⟨e_dsp ks es hs.2.1, no_A fun _ _ _ _ => rfl, no_P fun _ _ _ _ => rfl, no_I fun _ _ _ _ => rfl⟩
  | idx a b ha hb => exact ⟨e_idx a b ha.1 hb.1, no_A fun _ _ _ _ => rfl, no_P fun _ _ _ _ => rfl, no_I fun _ _ _ _ => rfl⟩
  | sl l a lo hi ha hl hh => exact ⟨e_sl l a lo hi ha.1 hl.2.2.1 hh.2.2.1, no_A fun _ _ _ _ => rfl, no_P fun _ _ _ _ => rfl, no_I fun _ _ _ _ => rfl⟩
  | call f es hs => exact ⟨e_call f es hs.2.1, no_A fun _ _ _ _ => rfl, no_P fun _ _ _ _ => rfl, no_I fun _ _ _ _ => rfl⟩
  | pcall f es hs => exact ⟨e_pcall f es hs.2.1, no_A fun _ _ _ _ => rfl, no_P fun _ _ _ _ => rfl, no_I fun _ _ _ _ => rfl⟩
  | meth c m o es ho hs => exact ⟨e_meth c m o es ho.1 hs.2.1, no_A fun _ _ _ _ => rfl, no_P fun _ _ _ _ => rfl, no_I fun _ _ _ _ => rfl⟩
  | mk c es hs => exact ⟨e_mk c es hs.2.1, no_A fun _ _ _ _ => rfl, no_P fun _ _ _ _ => rfl, no_I fun _ _ _ _ => rfl⟩
  | bi b es hs => exact ⟨e_bi b es hs.2.1, no_A fun _ _ _ _ => rfl, no_P fun _ _ _ _ => rfl, no_I fun _ _ _ _ => rfl⟩
  | bm b o es ho hs => exact ⟨e_bm b o es ho.1 hs.2.1, no_A fun _ _ _ _ => rfl, no_P fun _ _ _ _ => rfl, no_I fun _ _ _ _ => rfl⟩
  | fld f o ho => exact ⟨e_fld f o ho.1, no_A fun _ _ _ _ => rfl, no_P fun _ _ _ _ => rfl, no_I fun _ _ _ _ => rfl⟩
  | isa t a ha => exact ⟨e_isa t a ha.1, no_A fun _ _ _ _ => rfl, no_P fun _ _ _ _ => rfl, no_I fun _ _ _ _ => rfl⟩
  | src a ha => exact ⟨no_E fun _ _ _ _ => rfl, no_A fun _ _ _ _ => rfl, no_P fun _ _ _ _ => rfl, i_src a ha.1⟩
  | srcS a ha => exact ⟨no_E fun _ _ _ _ => rfl, no_A fun _ _ _ _ => rfl, no_P fun _ _ _ _ => rfl, i_srcS a ha.1⟩
  | rng1 a ha => exact ⟨no_E fun _ _ _ _ => rfl, no_A fun _ _ _ _ => rfl, no_P fun _ _ _ _ => rfl, i_rng1 a ha.1⟩
  | rng2 a b ha hb => exact ⟨no_E fun _ _ _ _ => rfl, no_A fun _ _ _ _ => rfl, no_P fun _ _ _ _ => rfl, i_rng2 a b ha.1 hb.1⟩
  | comp l t it c e hi hc he => exact ⟨e_comp l t it c e hi.2.2.2 hc.1 he.1, no_A fun _ _ _ _ => rfl, no_P fun _ _ _ _ => rfl, no_I fun _ _ _ _ => rfl⟩
  | err e he => exact ⟨no_E fun _ _ _ _ => rfl, no_A fun _ _ _ _ => rfl, no_P fun _ _ _ _ => rfl, no_I fun _ _ _ _ => rfl⟩
end
end Cy
end

section
set_option Elab.async false
set_option linter.all false
set_option maxRecDepth 100000
set_option maxHeartbeats 4000000
/-! Statements: readings and loops. -/
namespace Cy
open PySem PySem.Spec PyProof.Rows L2

/-- what is wanted behind a statement -/
def WS (G : Gn) (U ads : List Addr) (H : Hp) (o : Oc) (D : Ends) (W : WX) : Prop := match o with
  | .nx r M' => ∀ ext σ' H', Stp G U ads H ext M' H' → Rel G (U ++ ext) (ads ++ ext) H' r M' σ' → D.nx σ' H'
  | .rt d M' => ∀ ext v H', Stp G U ads H ext M' H' → Den G (U ++ ext) (ads ++ ext) H' d v → D.rt v H'
  | .bk r M' => ∀ ext σ' H', Stp G U ads H ext M' H' → Rel G (U ++ ext) (ads ++ ext) H' r M' σ' → D.bk σ' H'
  | .ct r M' => ∀ ext σ' H', Stp G U ads H ext M' H' → Rel G (U ++ ext) (ads ++ ext) H' r M' σ' → D.ct σ' H'
  | .ex e r M' => ∀ ext σ' cls d H', Stp G U ads H ext M' H' → Rel G (U ++ ext) (ads ++ ext) H' r M' σ' → ExD G (U ++ ext) (ads ++ ext) H' e cls d → W cls d σ' H'
  | .bad => False
def tS (G : Gn) (C : Cn) (W : WX) (st : St) : TS := fun D σ H => ∃ U ads ρ M, Rel G U ads H ρ M σ ∧ WS G U ads H (exS C st ρ M) D W
section
variable {G : Gn} {C : Cn} {W : WX} {U ads ext : List Addr} {H H' : Hp} {M M' : Mem} {D : Ends} {ρ : Env} {σ : L2.St} {α β : Type} {R : List Addr → List Addr → Hp → α → β → Prop}
theorem WS.shift {o : Oc} (h : WS G U ads H o D W) (s : Stp G U ads H ext M' H') : WS G (U ++ ext) (ads ++ ext) H' o D W := by
  cases o with
  | bad => exact h
  | nx r M2 => intro e2 σ2 H2 s2 hr; exact h (ext ++ e2) σ2 H2 (s.trans s2) (by rw [← List.append_assoc, ← List.append_assoc]; exact hr)
  | rt r M2 => intro e2 σ2 H2 s2 hr; exact h (ext ++ e2) σ2 H2 (s.trans s2) (by rw [← List.append_assoc, ← List.append_assoc]; exact hr)
  | bk r M2 => intro e2 σ2 H2 s2 hr; exact h (ext ++ e2) σ2 H2 (s.trans s2) (by rw [← List.append_assoc, ← List.append_assoc]; exact hr)
  | ct r M2 => intro e2 σ2 H2 s2 hr; exact h (ext ++ e2) σ2 H2 (s.trans s2) (by rw [← List.append_assoc, ← List.append_assoc]; exact hr)
  | ex e r M2 => intro e2 σ2 cls d H2 s2 hr he; exact h (ext ++ e2) σ2 cls d H2 (s.trans s2) (by rw [← List.append_assoc, ← List.append_assoc]; exact hr) (by rw [← List.append_assoc, ← List.append_assoc]; exact he)
theorem Wk.st {r : Res α} {f : α → Mem → Oc} (rel : Rel G U ads H ρ M σ) (h : WS G U ads H (r.st ρ f) D W) :
    Wk G R U ads H r (fun b H1 => ∃ ext a M1, r = .ok a M1 ∧ Stp G U ads H ext M1 H1 ∧ R (U ++ ext) (ads ++ ext) H1 a b ∧ WS G (U ++ ext) (ads ++ ext) H1 (f a M1) D W) (WE W σ) := by
  cases r with
  | bad => exact h
  | exc e M1 => exact fun ext cls d H1 s he => h ext σ cls d H1 s (rel.stp s) he
  | ok a M1 => exact fun ext b H1 s hr => ⟨ext, a, M1, rfl, s, hr, WS.shift (show WS G U ads H (f a M1) D W from h) s⟩
theorem WS.nxNow {σ' : L2.St} {r : Env} (h : WS G U ads H (.nx r M) D W) (rel : Rel G U ads H r M σ') : D.nx σ' H := h [] σ' H (Stp.refl rel.mem) (by simpa using rel)
theorem WS.rtNow {d : Cy.D} {v : Vv} (h : WS G U ads H (.rt d M) D W) (m : MemOk G U ads H M) (hd : Den G U ads H d v) : D.rt v H := h [] v H (Stp.refl m) (by simpa using hd)
/-- the body of a loop -/
theorem WS.body {N : L2.St → Hp → Prop} {o : Oc} {F : Env → Mem → Oc} (h : WS G U ads H (match o with
    | .nx r M => F r M
    | .ct r M => F r M
    | .bk r M => .nx r M
    | o => o) D W) (k : ∀ ext σ' H' r M', Stp G U ads H ext M' H' → Rel G (U ++ ext) (ads ++ ext) H' r M' σ' → WS G (U ++ ext) (ads ++ ext) H' (F r M') D W → N σ' H') :
    WS G U ads H o { D with nx := N, ct := N, bk := D.nx } W := by
  cases o with
  | bad => exact h
  | nx r M2 => exact fun ext σ' H' s hr => k ext σ' H' r M2 s hr (WS.shift h s)
  | rt d M2 => exact h
  | bk r M2 => exact h
  | ct r M2 => exact fun ext σ' H' s hr => k ext σ' H' r M2 s hr (WS.shift h s)
  | ex e r M2 => exact h
theorem while_imp {n : Nat} {c : Ex} {b : Cy.St} : ∀ D σ H, tS G C W (.whl n c b) D σ H → tWhile (tB (tE G C W c)) (tS G C W b) D σ H := by
  rintro D σ H ⟨U, ads, ρ, M, rel, h⟩
  refine ⟨fun m σ H => ∃ U ads ρ M, Rel G U ads H ρ M σ ∧ WS G U ads H (loopW (evE C c) (exS C b) m ρ M) D W, ⟨n, U, ads, ρ, M, rel, h⟩, ?_⟩
  rintro m σ H ⟨U, ads, ρ, M, rel, h⟩
  cases m with
  | zero => exact h.elim
  | succ m =>
    refine ⟨U, ads, ρ, M, rel, (Wk.st (R := Den G) rel h).mono fun x H1 ⟨ext, d, M1, _, st, dx, h2⟩ => ?_⟩
    cases d with
    | bl k =>
      refine ⟨k, dx, ?_⟩
      cases k with
      | true => exact ⟨_, fun σ' H' q => ⟨m, Nat.lt_succ_self m, q⟩, _, _, ρ, M1, rel.stp st, WS.body h2 fun ext2 σ' H' r M' s2 r2 q => ⟨_, _, r, M', r2, q⟩⟩
      | false => exact h2.nxNow (rel.stp st)
    | _ => exact h2.elim
theorem for_imp {t : Tg} {it : Ex} {b : Cy.St} : ∀ D σ H, tS G C W (.for_ t it b) D σ H → tFor (tI G C W it) (gT G.K t) (tS G C W b) D σ H := by
  rintro D σ H ⟨U, ads, ρ, M, rel, h⟩
  simp only [exS] at h
  refine ⟨U, ads, ρ, M, rel, (Wk.st (R := SrcD G) rel h).mono fun J H1 ⟨ext, s, M1, _, st, hs, h2⟩ => ?_⟩
  cases hk : s.size M1 with
  | none => simp only [hk] at h2; exact h2.elim
  | some k =>
    simp only [hk] at h2
    refine ⟨fun i m σ H => ∃ U ads ρ M, Rel G U ads H ρ M σ ∧ SrcD G U ads H s J ∧ WS G U ads H (loopF t (exS C b) s m i ρ M) D W, ⟨k, _, _, ρ, M1, rel.stp st, hs, h2⟩, ?_⟩
    rintro i m σ H ⟨U, ads, ρ, M, rel, hs, h⟩
    rw [loopF.eq_def] at h
    cases hk : s.size M with
    | none => simp only [hk] at h; exact h.elim
    | some k' =>
      simp only [hk] at h
      cases hx : s.at_ M i with
      | none =>
        simp only [hx] at h
        by_cases hle : Nat.ble k' i = true
        · rw [if_pos hle] at h
          exact .inl ⟨hs.stop rel.mem hk (Nat.le_of_ble_eq_true hle), h.nxNow rel⟩
        · rw [if_neg hle] at h
          exact h.elim
      | some x =>
        simp only [hx] at h
        cases m with
        | zero => exact h.elim
        | succ m =>
          simp only at h
          refine .inr ⟨hs.go rel.mem hx, _, fun σ' H' q => ⟨m, Nat.lt_succ_self m, q⟩, fun v H' hy => ?_⟩
          obtain ⟨eH, dv⟩ := hs.yld rel.mem hx hy
          subst eH
          cases ht : t.to x ρ with
          | none => simp only [ht] at h; exact h.elim
          | some ρ' =>
            simp only [ht] at h
            exact gT_ok rel dv ht fun σ' rel' _ => ⟨_, _, ρ', M, rel', WS.body h fun ext2 σ2 H2 r M' s2 r2 q => ⟨_, _, r, M', r2, hs.stp rel.mem s2, q⟩⟩
end
end Cy
end

section
set_option Elab.async false
set_option linter.all false
set_option maxRecDepth 100000
set_option maxHeartbeats 4000000
/-! The checker of statements. -/
namespace Cy
open PySem PySem.Spec PyProof.Rows L2

def noComp : Expr → Bool
  | .ListComp .. => false
  | .SetComp .. => false
  | .DictComp .. => false
  | _ => true
def notTup : Expr → Bool
  | .Tuple .. => false
  | _ => true
def isNoC : Ex → Bool
  | .cN => true
  | _ => false
def locB (sc : Scope) (x : Str) : Bool := match sc.names.lookup x with
  | some .local => true
  | some .cell => true
  | _ => false
def lclB (sc : Scope) (x : Str) : Bool := match sc.names.lookup x with
  | some .local => true
  | _ => false
def isAS (o : BOp) : Bool := match o with
  | .add => true
  | .sub => true
  | _ => false
def swB (sc : Scope) (y : Str) (py : Pos) (scope : Scope) (pos : Pos) : Bool := sc.names.lookup y == some .local && py.line == pos.line && !(scope.names.any fun (n, k) => n == y && (k == .local || k == .cell))
section
variable (nm : Nat → Str) (N : List Str)
mutual
def chkS : St → Scope → Stmt → Bool
  | .nop, _, a => match a with
    | .Pass _ => true
    | _ => false
  | .brk, _, a => match a with
    | .Break _ => true
    | _ => false
  | .cnt, _, a => match a with
    | .Continue _ => true
    | _ => false
  | .ret e, sc, a => match a with
    | .Return (some v) _ => chkE nm N e sc v
    | .Return none _ => isNoC e
    | _ => false
  | .exp e, sc, a => match a with
    | .Expr v _ => chkE nm N e sc v && noComp v
    | _ => false
  | .set t e, sc, a => match a with
    | .Assign [tg] v _ => chkTg N sc (fun _ => true) t tg && chkE nm N e sc v && (match t with
      | .nm _ => true
      | .tp _ => notTup v)
    | _ => false
  | .par is es, sc, a => match a, is with
    | .Assign [.Tuple [.Name x px, .Name y py] _ _] (.Tuple [u, v] _ _) _, [i, j] => decide (N[i]? = some x) && decide (N[j]? = some y) && !(i == j) && !(decide (x = y)) && lclB sc x && lclB sc y && px.line == py.line && plainX u && plainX v &&
        chkA nm N es sc [u, v] && !([u, v].all (foldedForSure 8)) && !([u, v].all (constantsAlone 8))
    | .Assign [.Tuple [.Name x px, .Name y py, .Name z pz] _ _] (.Tuple [u, v, w] _ _) _, [i, j, k] => decide (N[i]? = some x) && decide (N[j]? = some y) && decide (N[k]? = some z) && !(i == j) && !(i == k) && !(j == k) &&
        !(decide (x = y)) && !(decide (x = z)) && !(decide (y = z)) && lclB sc x && lclB sc y && lclB sc z && px.line == py.line && px.line == pz.line && plainX u && plainX v && plainX w &&
        chkA nm N es sc [u, v, w] && !([u, v, w].all (foldedForSure 8)) && !([u, v, w].all (constantsAlone 8))
    | _, _ => false
  | .aug o i e, sc, a => match a with
    | .AugAssign (.Name x _) op v _ => decide (N[i]? = some x) && locB sc x && decide (op = opOf o) && isAS o && chkE nm N e sc v
    | _ => false
  | .put o i e, sc, a => match a with
    | .Assign [.Subscript x y _] v _ => chkE nm N o sc x && chkE nm N i sc y && plainX y && chkE nm N e sc v
    | _ => false
  | .fld f o e, sc, a => match a with
    | .Assign [.Attribute x y _] v _ => decide (y = nm f) && chkE nm N o sc x && chkE nm N e sc v
    | _ => false
  | .fldA p f o e, sc, a => match a with
    | .AugAssign (.Attribute x y _) op v _ => decide (y = nm f) && decide (op = opOf p) && isAS p && chkE nm N o sc x && chkE nm N e sc v
    | _ => false
  | .ite c a b, sc, s => match s with
    | .If t x y _ => chkE nm N c sc t && chkB a sc x && chkB b sc y
    | _ => false
  | .whl _ c b, sc, s => match s with
    | .While t x [] _ => chkE nm N c sc t && chkB b sc x
    | _ => false
  | .for_ t it b, sc, s => match s with
    | .For tg iter x [] _ => chkI nm N it sc iter && chkTg N sc (fun _ => true) t tg && chkB b sc x
    | _ => false
  | .rse c es, sc, s => match s with
    | .Raise (some (.Call (.Name x _) args [] _)) none _ => decide (x = nm c) && glB sc x && chkA nm N es sc args && !args.isEmpty
    | _ => false
  | .rse0 c, sc, s => match s with
    | .Raise (some (.Call (.Name x _) [.Constant (.str _) _ _] [] _)) none _ => decide (x = nm c) && glB sc x
    | _ => false
  | _, _, _ => false
def chkB : St → Scope → List Stmt → Bool
  | .nop, _, ss => ss.isEmpty
  | .seq a b, sc, ss => match ss with
    | s :: r => chkS a sc s && chkB b sc r
    | [] => false
  | _, _, _ => false
end
end
section
variable {e : Expr} {env : PySem.Env} {pos : Pos} {t : Option Expr} {ln : Nat}
theorem sw_no (h : noComp e = true) : swapsWith e t ln env = pure false := by
  cases e <;> first | rfl | cases h
theorem sw_tup {es : List Expr} {k : Nat} {p : Pos} : swapsWith e (some (.Tuple es k p)) ln env = pure false := by
  cases e <;> rfl
theorem sw_sub {x y : Expr} {p : Pos} : swapsWith e (some (.Subscript x y p)) ln env = pure false := by
  cases e <;> rfl
theorem sw_att {x : Expr} {y : Str} {p : Pos} : swapsWith e (some (.Attribute x y p)) ln env = pure false := by
  cases e <;> rfl
theorem sw_lc {elt : Expr} {gens : List Comprehension} {scope : Scope} {y : Str} {py : Pos} (hk : env.scope.kind = .function) :
    swapsWith (.ListComp elt gens scope pos) (some (.Name y py)) ln env = pure (swB env.scope y py scope pos) := by
  show (pure (env.blockKind == .function && env.kindOf y == some .local && py.line == pos.line && !(scope.names.any fun (n, k) => n == y && (k == .local || k == .cell))) : Sem Bool) = _
  have : env.blockKind = .function := by
    unfold PySem.Env.blockKind
    rw [hk]
    rfl
  rw [this]
  rfl
theorem st_tup {es : List Expr} {k : Nat} {p : Pos} (h : notTup e = true) : swappedStores [.Tuple es k p] e env = pure none := by
  cases e <;> first | rfl | cases h
theorem st_sub {x y : Expr} {p : Pos} : swappedStores [.Subscript x y p] e env = pure none := by
  cases e <;> rfl
theorem st_nam {y : Str} {p : Pos} : swappedStores [.Name y p] e env = pure none := by
  cases e <;> rfl
theorem star_no {e : Expr} (h : plainX e = true) : (match e with
    | .Starred .. => true
    | _ => false) = false := by
  cases e <;> first | rfl | cases h
theorem st_two {x y : Str} {px py p p2 : Pos} {k k2 : Nat} {u v : Expr} (hk : env.scope.kind = .function) (hx : env.scope.names.lookup x = some .local) (hy : env.scope.names.lookup y = some .local) (ne : x ≠ y) (ln : px.line = py.line)
    (hu : plainX u = true) (hv : plainX v = true) (h1 : [u, v].all (foldedForSure 8) = false) (h2 : [u, v].all (constantsAlone 8) = false) :
    swappedStores [.Tuple [.Name x px, .Name y py] k p] (.Tuple [u, v] k2 p2) env = pure (some [x, y]) := by
  have bk : env.blockKind = .function := by
    unfold PySem.Env.blockKind
    rw [hk]
    rfl
  have kx : env.kindOf x = some .local := hx
  have ky : env.kindOf y = some .local := hy
  have ed : [x, y].eraseDups = [x, y] := by
    simp [List.eraseDups_cons, ne.symm]
  simp [swappedStores, bk, kx, ky, ln, Expr.pos, ed, h1, h2]
  rintro (h | h)
  · cases u <;> first | exact ff hu | cases h
  · cases v <;> first | exact ff hv | cases h
theorem st_three {x y z : Str} {px py pz p p2 : Pos} {k k2 : Nat} {u v w : Expr} (hk : env.scope.kind = .function) (hx : env.scope.names.lookup x = some .local) (hy : env.scope.names.lookup y = some .local) (hz : env.scope.names.lookup z = some .local) (ne : x ≠ y) (ne2 : x ≠ z) (ne3 : y ≠ z)
    (ln : px.line = py.line) (ln2 : px.line = pz.line) (hu : plainX u = true) (hv : plainX v = true) (hw : plainX w = true) (h1 : [u, v, w].all (foldedForSure 8) = false) (h2 : [u, v, w].all (constantsAlone 8) = false) :
    swappedStores [.Tuple [.Name x px, .Name y py, .Name z pz] k p] (.Tuple [u, v, w] k2 p2) env = pure (some [x, y, z]) := by
  have bk : env.blockKind = .function := by
    unfold PySem.Env.blockKind
    rw [hk]
    rfl
  have kx : env.kindOf x = some .local := hx
  have ky : env.kindOf y = some .local := hy
  have kz : env.kindOf z = some .local := hz
  have ed : [x, y, z].eraseDups = [x, y, z] := by
    simp [List.eraseDups_cons, ne.symm, ne2.symm, ne3.symm]
  simp [swappedStores, bk, kx, ky, kz, ← ln, ← ln2, Expr.pos, ed, h1, h2]
  rintro (h | h | h)
  · cases u <;> first | exact ff hu | cases h
  · cases v <;> first | exact ff hv | cases h
  · cases w <;> first | exact ff hw | cases h
end
end Cy
end

section
set_option Elab.async false
set_option linter.all false
set_option maxRecDepth 100000
set_option maxHeartbeats 4000000
/-! A checked statement does what the small language says. -/
namespace Cy
open PySem PySem.Spec PyProof.Rows L2

/-- the promise of an exception's own __init__ -/
def spX (G : Gn) (fs : List Nat) (cl : Addr) : Sp := fun vs H Q E => ∃ a xs, vs = .ref a :: xs ∧ xs.length = fs.length ∧ H a = some (exo a cl none) ∧
  ∀ d, H d = none → d ≠ a → Q .non (upd (upd H d (exd d ((fs.map G.nm).zip xs).reverse)) a (exo a cl (some d)))
structure Sx (G : Gn) (C : Cn) (X : Cx) : Prop extends Gx G C X where
  fn1 : X.fn = fun _ => true
  kind : X.env.scope.kind = .function
  own : PassesOwn (model X.prog X.w) X.A X.env X.xe
  exc0 : ∀ c, C.exc c = some [] → ∃ B newId initId bmB, ExcBaseFacts B newId initId bmB ∧ PySem.W.excIn X.K (G.cl c) bmB newId = true ∧ X.mg (G.nm c) = some (.ref (G.cl c)) ∧ PySem.W.keepIn X.K (.ref (G.cl c)) = true ∧ Raises X (.ref (G.cl c))
  exc1 : ∀ c f fs, C.exc c = some (f :: fs) → ∃ k fI fd ps, OexC X.K (G.cl c) ∧ PySem.W.findIn X.K (.ref (G.cl c)) "__init__" = some (some (.ref fI)) ∧ PySem.W.typeIn X.K (.ref fI) = some (.type "function") ∧
    FnOk X.prog X.w X.K X.mg X.base (L2.CX X.prog X.w) k fI fd ps (spX G (f :: fs) (G.cl c)) ∧ Room (k + 1) X.A ∧ Binds X.K fd ps [] ∧ X.mg (G.nm c) = some (.ref (G.cl c))
section
variable {G : Gn} {C : Cn}
abbrev PrS (G : Gn) (C : Cn) (st : Cy.St) : Prop := ∀ (X : Cx) (W : WX) (s : Stmt), Sx G C X → Takes X W → chkS G.nm X.N st X.env.scope s = true → PS X s (tS G C W st)
abbrev PrB (G : Gn) (C : Cn) (st : Cy.St) : Prop := ∀ (X : Cx) (W : WX) (ss : List Stmt), Sx G C X → Takes X W → chkB G.nm X.N st X.env.scope ss = true → PSs X ss (tS G C W st)
theorem pas {X : Cx} {W : WX} (tk : Takes X W) : Pas X W := fun σ => passAt tk σ
theorem ps_no {X : Cx} {s : Stmt} {t : TS} (h : ∀ D σ H, ¬ t D σ H) : PS X s t := ⟨fun _ _ σ H D _ q => (h D σ H q).elim⟩
theorem s_nop : PrS G C .nop := fun X W s g tk h => by
  simp only [chkS] at h
  split at h
  · exact ps_pass.imp fun D σ H ⟨U, ads, ρ, M, rel, q⟩ => WS.nxNow q rel
  · cases h
theorem s_brk : PrS G C .brk := fun X W s g tk h => by
  simp only [chkS] at h
  split at h
  · exact ps_break.imp fun D σ H ⟨U, ads, ρ, M, rel, q⟩ => q [] σ H (Stp.refl rel.mem) (by simpa using rel)
  · cases h
theorem s_cnt : PrS G C .cnt := fun X W s g tk h => by
  simp only [chkS] at h
  split at h
  · exact ps_continue.imp fun D σ H ⟨U, ads, ρ, M, rel, q⟩ => q [] σ H (Stp.refl rel.mem) (by simpa using rel)
  · cases h
theorem s_ret (e : Ex) : PrS G C (.ret e) := fun X W s g tk h => by
  simp only [chkS] at h
  split at h
  · refine (ps_ret ((all4 G C e).1 X W _ g.toGx (pas tk) h).1).imp ?_
    rintro D σ H ⟨U, ads, ρ, M, rel, q⟩
    exact ⟨U, ads, ρ, M, rel, (Wk.st (R := Den G) rel q).mono fun x H1 ⟨ext, d, M1, _, st, dx, h2⟩ => h2.rtNow st.mem dx⟩
  · cases e with
    | cN =>
      refine ps_retN.imp ?_
      rintro D σ H ⟨U, ads, ρ, M, rel, q⟩
      exact WS.rtNow q rel.mem rfl
    | _ => cases h
  · cases h
theorem s_exp (e : Ex) : PrS G C (.exp e) := fun X W s g tk h => by
  simp only [chkS] at h
  split at h
  · rw [Bool.and_eq_true] at h
    refine (ps_expr ((all4 G C e).1 X W _ g.toGx (pas tk) h.1).1 (sw_no h.2)).imp ?_
    rintro D σ H ⟨U, ads, ρ, M, rel, q⟩
    exact ⟨U, ads, ρ, M, rel, (Wk.st (R := Den G) rel q).mono fun x H1 ⟨ext, d, M1, _, st, dx, h2⟩ => h2.nxNow (rel.stp st)⟩
  · cases h
theorem set_imp {W : WX} {t : Tg} {e : Ex} : ∀ D σ H, tS G C W (.set t e) D σ H → tAsg (tE G C W e) (gT G.K t) D σ H := by
  rintro D σ H ⟨U, ads, ρ, M, rel, q⟩
  refine ⟨U, ads, ρ, M, rel, (Wk.st (R := Den G) rel q).mono fun x H1 ⟨ext, d, M1, _, st, dx, h2⟩ => ?_⟩
  cases ht : t.to d ρ with
  | none => simp only [ht] at h2; exact h2.elim
  | some ρ' =>
    simp only [ht] at h2
    exact gT_ok (rel.stp st) dx ht fun σ' r' _ => h2.nxNow r'
theorem s_set (t : Tg) (e : Ex) : PrS G C (.set t e) := fun X W s g tk h => by
  simp only [chkS] at h
  split at h
  · rename_i tg v pos
    rw [Bool.and_eq_true, Bool.and_eq_true] at h
    obtain ⟨⟨h1, h2⟩, h3⟩ := h
    have h1' : chkTg X.N X.env.scope X.fn t tg = true := by rw [g.fn1]; exact h1
    have pv := ((all4 G C e).1 X W _ g.toGx (pas tk) h2).1
    have pt := pgT g.nd g.calm h1'
    cases t with
    | tp is =>
      cases tg with
      | Tuple es k p =>
        rw [← g.K] at pt
        exact (ps_asg (pos := pos) pv pt (show swapsWithSole [.Tuple es k p] v pos.line X.env = pure false from sw_tup (e := v) (env := X.env) (ln := pos.line) (es := es) (k := k) (p := p)) (st_tup (e := v) (env := X.env) (es := es) (k := k) (p := p) h3)).imp set_imp
      | _ => exact ff h1
    | nm i =>
      have h0 : chkT1 X.N X.env.scope (fun _ => true) i tg = true := h1
      unfold chkT1 at h0
      split at h0
      · rename_i y py
        rw [Bool.and_eq_true] at h0
        have hN := of_decide_eq_true h0.1
        have hloc : Loc X.env.scope y := by
          have q := h0.2
          split at q
          · rename_i z; exact .inl z
          · rename_i z; exact .inr z
          · cases q
        have im : ∀ D σ H, tS G C W (.set (.nm i) e) D σ H → tAsg (tE G C W e) (gName i) D σ H := fun D σ H q => set_imp D σ H q
        cases hc : noComp v with
        | true => exact (ps_asg pv (pg_name g.nd hN hloc (.inl (by rw [g.fn1]))) (show swapsWithSole [.Name y py] v pos.line X.env = pure false from sw_no (e := v) (env := X.env) (ln := pos.line) (t := some (.Name y py)) hc) st_nam).imp im
        | false =>
          cases v with
          | ListComp elt gens scope p2 =>
            have sw := sw_lc (elt := elt) (gens := gens) (scope := scope) (pos := p2) (y := y) (py := py) (ln := pos.line) g.kind
            cases hb : swB X.env.scope y py scope p2 with
            | false =>
              rw [hb] at sw
              exact (ps_asg pv (pg_name g.nd hN hloc (.inl (by rw [g.fn1]))) (show swapsWithSole [.Name y py] (.ListComp elt gens scope p2) pos.line X.env = pure false from sw) st_nam).imp im
            | true =>
              rw [hb] at sw
              have hl : X.env.scope.names.lookup y = some .local := by
                unfold swB at hb
                rw [Bool.and_eq_true, Bool.and_eq_true] at hb
                exact eq_of_beq hb.1.1
              cases e with
              | comp l t it c e =>
                simp only [chkE] at h2
                split at h2
                · rename_i elt2 tg2 iter ifs k scope2 pos2 z
                  cases z
                  simp only [Bool.and_eq_true, decide_eq_true_eq] at h2
                  obtain ⟨⟨⟨⟨⟨e0, a1⟩, a2⟩, a3⟩, a4⟩, a5⟩ := h2
                  subst e0
                  obtain ⟨tt, q1, q2, q3, q4, q5, q6, q7⟩ := lc_parts (l := l) (W := W) (all4 G C it).2.2.2 (all4 G C c).1 (all4 G C e).1 g.toGx (pas tk) a1 a2 a3 a4 a5
                  exact (ps_setLc g.calm g.nd hN hl sw q1 q2 q3 q4 q5 q6).imp fun D σ H q => q7 σ H _ (im D σ H q)
                · cases h2
              | _ => exact ff h2
          | SetComp _ _ _ _ => cases e <;> exact ff h2
          | DictComp _ _ _ _ _ => cases e <;> exact ff h2
          | _ => cases hc
      · cases h0
  · cases h
end
end Cy
end

section
set_option Elab.async false
set_option linter.all false
set_option maxRecDepth 100000
set_option maxHeartbeats 4000000
/-! A checked statement does what the small language says: the rest. -/
namespace Cy
open PySem PySem.Spec PyProof.Rows L2
section
variable {G : Gn} {C : Cn}
theorem Rel.sets {U ads : List Addr} {H : Hp} {M : Mem} : ∀ {is : List Nat} {ds : List D} {vs : List Vv} {ρ : Env} {σ : L2.St}, Rel G U ads H ρ M σ → DenL G U ads H ds vs → Rel G U ads H (setAll is ds ρ) M (is.zip vs |>.foldl (fun σ p => σ.set p.1 (some p.2)) σ)
  | [], ds, vs, ρ, σ, r, _ => by cases ds <;> exact r
  | i :: is, [], vs, ρ, σ, r, d => by
    cases (show vs = [] from d)
    exact r
  | i :: is, x :: ds, vs, ρ, σ, r, d => by
    obtain ⟨v, w, e, d1, d2⟩ := d
    subst e
    exact Rel.sets (is := is) (r.set i d1) d2
theorem not_true {b : Bool} (h : (!b) = true) : b = false := by
  cases b <;> first | rfl | cases h
theorem s_par (is : List Nat) (es : Ex) : PrS G C (.par is es) := fun X W s g tk h => by
  simp only [chkS] at h
  split at h
  · rename_i x px y py k1 p1 u v k2 p2 pos i j
    simp only [Bool.and_eq_true, decide_eq_true_eq] at h
    obtain ⟨⟨⟨⟨⟨⟨⟨⟨⟨⟨⟨a1, a2⟩, a3⟩, a4⟩, a5⟩, a6⟩, a7⟩, a8⟩, a9⟩, b1⟩, b2⟩, b3⟩ := h
    have lx : X.env.scope.names.lookup x = some .local := by
      unfold lclB at a5
      split at a5
      · rename_i z; exact z
      · cases a5
    have ly : X.env.scope.names.lookup y = some .local := by
      unfold lclB at a6
      split at a6
      · rename_i z; exact z
      · cases a6
    have ij : i ≠ j := by simpa using a3
    have xy : x ≠ y := by simpa using a4
    have q1 : [u, v].all (foldedForSure 8) = false := not_true b2
    have q2 : [u, v].all (constantsAlone 8) = false := not_true b3
    have pa := ((all4 G C es).2.1 X W _ g.toGx (pas tk) b1).1
    refine (ps_par (pos := pos) (pt := p1) (kt := k1) (k2 := k2) (pt2 := p2) g.calm g.nd a1 a2 ij lx ly pa (st_two g.kind lx ly xy (eq_of_beq a7) a8 a9 q1 q2)).imp ?_
    rintro D σ H ⟨U, ads, ρ, M, rel, q⟩
    refine ⟨U, ads, ρ, M, rel, (Wk.st (R := DenL G) rel q).mono fun vs H1 ⟨ext, ds, M1, _, st, dl, h2⟩ => ?_⟩
    match ds, dl, h2 with
    | [d1, d2], dl, h2 =>
      obtain ⟨v, w, e, _, _⟩ := dl.two
      refine ⟨v, w, e, ?_⟩
      have r2 := Rel.sets (is := [i, j]) (rel.stp st) dl
      rw [e] at r2
      exact WS.nxNow h2 r2
    | [], _, h2 => exact h2.elim
    | [_], _, h2 => exact h2.elim
    | _ :: _ :: _ :: _, _, h2 =>
      have h2 : WS G _ _ H1 (if (2 == _ + 3) = true then _ else Oc.bad) D W := h2
      rw [if_neg (by simp)] at h2
      exact h2.elim
  · rename_i x px y py z pz k1 p1 u v w k2 p2 pos i j l
    simp only [Bool.and_eq_true, decide_eq_true_eq] at h
    obtain ⟨⟨⟨⟨⟨⟨⟨⟨⟨⟨⟨⟨⟨⟨⟨⟨⟨⟨⟨a1, a2⟩, a3⟩, i1⟩, i2⟩, i3⟩, n1⟩, n2⟩, n3⟩, l1⟩, l2⟩, l3⟩, m1⟩, m2⟩, pu⟩, pv⟩, pw⟩, ck⟩, b2⟩, b3⟩ := h
    have loc : ∀ x, lclB X.env.scope x = true → X.env.scope.names.lookup x = some .local := fun x q => by
      unfold lclB at q
      split at q
      · rename_i z; exact z
      · cases q
    have q1 : [u, v, w].all (foldedForSure 8) = false := not_true b2
    have q2 : [u, v, w].all (constantsAlone 8) = false := not_true b3
    have pa := ((all4 G C es).2.1 X W _ g.toGx (pas tk) ck).1
    have xy : x ≠ y := by simpa using n1
    have xz : x ≠ z := by simpa using n2
    have yz : y ≠ z := by simpa using n3
    refine (ps_par3 (pos := pos) (pt := p1) (kt := k1) (k2 := k2) (pt2 := p2) g.calm g.nd a1 a2 a3 (by simpa using i1) (by simpa using i2) (by simpa using i3) (loc x l1) (loc y l2) (loc z l3) pa
      (st_three g.kind (loc x l1) (loc y l2) (loc z l3) xy xz yz (eq_of_beq m1) (eq_of_beq m2) pu pv pw q1 q2)).imp ?_
    rintro D σ H ⟨U, ads, ρ, M, rel, q⟩
    refine ⟨U, ads, ρ, M, rel, (Wk.st (R := DenL G) rel q).mono fun vs H1 ⟨ext, ds, M1, _, st, dl, h2⟩ => ?_⟩
    match ds, dl, h2 with
    | [d1, d2, d3], dl, h2 =>
      obtain ⟨v1, r, e1, _, dl2⟩ := id dl
      obtain ⟨v2, v3, e2, _, _⟩ := dl2.two
      subst e2
      refine ⟨v1, v2, v3, e1, ?_⟩
      have r2 := Rel.sets (is := [i, j, l]) (rel.stp st) dl
      rw [e1] at r2
      exact WS.nxNow h2 r2
    | [], _, h2 => exact h2.elim
    | [_], _, h2 => exact h2.elim
    | [_, _], _, h2 => exact h2.elim
    | _ :: _ :: _ :: _ :: _, _, h2 =>
      have h2 : WS G _ _ H1 (if (3 == _ + 4) = true then _ else Oc.bad) D W := h2
      rw [if_neg (by simp)] at h2
      exact h2.elim
  · cases h
theorem aop_ok {X : Cx} (G : Gn) (o : BOp) (ho : isAS o = true) : PIp X (opOf o) (rTwo G (aop o)) := by
  intro pins s σ H x y v u Q I rx ry h
  obtain ⟨U, ads, M, d, e, E, m, hd, he, h⟩ := h
  cases o with
  | add =>
    cases d with
    | int i =>
      cases e with
      | int j => exact ip_add pins s σ H x y v u Q I rx ry ⟨i, j, hd, he, Wk.now h m rfl⟩
      | _ => exact h.elim
    | _ => cases e <;> exact h.elim
  | sub =>
    cases d with
    | int i =>
      cases e with
      | int j => exact ip_sub pins s σ H x y v u Q I rx ry ⟨i, j, hd, he, Wk.now h m rfl⟩
      | _ => exact h.elim
    | _ => cases e <;> exact h.elim
  | _ => cases ho
theorem s_aug (o : BOp) (i : Nat) (e : Ex) : PrS G C (.aug o i e) := fun X W s g tk h => by
  simp only [chkS] at h
  split at h
  · rename_i x px op v pos
    simp only [Bool.and_eq_true, decide_eq_true_eq] at h
    obtain ⟨⟨⟨⟨a1, a2⟩, a3⟩, a4⟩, a5⟩ := h
    subst a3
    have hloc : Loc X.env.scope x := by
      unfold locB at a2
      split at a2
      · rename_i z; exact .inl z
      · rename_i z; exact .inr z
      · cases a2
    refine (ps_aug g.nd a1 hloc ((all4 G C e).1 X W _ g.toGx (pas tk) a5).1 (aop_ok G o a4) (.inl (by rw [g.fn1]))).imp ?_
    rintro D σ H ⟨U, ads, ρ, M, rel, q⟩
    simp only [exS] at q
    split at q
    · rename_i d hd
      obtain ⟨v, e1, e2⟩ := rel.at_ i d hd
      refine ⟨v, e1, U, ads, ρ, M, rel, (Wk.st (R := Den G) rel q).mono fun y H1 ⟨ext, d2, M1, _, st, dy, h2⟩ => ?_⟩
      have rel1 := rel.stp st
      refine ⟨_, _, M1, d, d2, WE W σ, st.mem, e2.stp rel.mem st, dy, (Wk.st (R := Den G) rel1 h2).mono fun z H2 ⟨ext2, d3, M2, _, st2, dz, h3⟩ => ?_⟩
      exact h3.nxNow ((rel1.stp st2).set i dz)
    · exact q.elim
  · cases h
theorem s_put (o i e : Ex) : PrS G C (.put o i e) := fun X W s g tk h => by
  simp only [chkS] at h
  split at h
  · rename_i x y p v pos
    simp only [Bool.and_eq_true] at h
    obtain ⟨⟨⟨a1, a2⟩, a3⟩, a4⟩ := h
    have as : ∀ u, assign (.Subscript x y p) X.env u = (do
        let ov ← holding [u] (eval x X.env)
        let iv ← holding [u, ov] (eval y X.env)
        standAt p
        holding [u, ov, iv] (setItem ov iv u)
        release [u, ov, iv] []) := fun u => by
      cases y <;> first | rfl | exact ff a3
    refine (ps_asg (pos := pos) ((all4 G C e).1 X W _ g.toGx (pas tk) a4).1 (pg_sub ((all4 G C o).1 X W _ g.toGx (pas tk) a1).1 ((all4 G C i).1 X W _ g.toGx (pas tk) a2).1 set_list as)
      (show swapsWithSole [.Subscript x y p] v pos.line X.env = pure false from sw_sub (e := v) (env := X.env) (ln := pos.line) (x := x) (y := y) (p := p)) (st_sub (e := v) (env := X.env) (x := x) (y := y) (p := p))).imp ?_
    rintro D σ H ⟨U, ads, ρ, M, rel, q⟩
    refine ⟨U, ads, ρ, M, rel, (Wk.st (R := Den G) rel q).mono fun v H1 ⟨ext, d, M1, _, st, dv, h2⟩ => ⟨_, _, ρ, M1, rel.stp st, (Wk.st (R := Den G) (rel.stp st) h2).mono fun x H2 ⟨ext2, d2, M2, _, st2, dx, h3⟩ =>
      ⟨_, _, ρ, M2, (rel.stp st).stp st2, (Wk.st (R := Den G) ((rel.stp st).stp st2) h3).mono fun y H3 ⟨ext3, d3, M3, _, st3, dy, h4⟩ => ?_⟩⟩⟩
    have rel1 := rel.stp st
    have rel2 := rel1.stp st2
    have rel3 := rel2.stp st3
    have dv3 := (dv.stp rel1.mem st2).stp rel2.mem st3
    have dx3 := dx.stp rel2.mem st3
    cases d2 with
    | obj l =>
      cases hm : setM M3 l d3 d with
      | none => simp only [hm] at h4; exact h4.elim
      | some M4 =>
        simp only [hm] at h4
        unfold setM at hm
        cases hl : M3[l]? with
        | none => simp only [hl] at hm; cases hm
        | some mo =>
          cases mo with
          | lst xs =>
            cases d3 with
            | int k =>
              simp only [hl] at hm
              obtain ⟨j, e1, e2⟩ := Option.map_eq_some_iff.mp hm
              subst e2
              obtain ⟨a, vs, f1, f2, f3, f4⟩ := lab_lst rel3.mem dx3 hl
              refine ⟨a, vs, k, j, f1, dy, f3, by rw [← f4.length]; exact e1, ?_⟩
              have ha : a ∈ _ := List.mem_of_getElem? f2
              have kk := Kp.wr (o' := .lst (vs.set j v)) (G := G) (ads := ads ++ ext ++ ext2 ++ ext3) (rel3.mem.sub a ha) f3 (fun _ z => by cases z) (fun _ _ z => by cases z)
              have s4 := Stp.wr (mo := .lst (xs.set j d)) rel3.mem f2 f3 (fun _ z => by cases z) (fun _ _ z => by cases z) ⟨vs.set j v, upd_same, (f4.set dv3 j).kp kk⟩
              exact h4 [] σ _ s4 (rel3.stp s4)
            | _ => simp only [hl] at hm; cases hm
          | _ => simp only [hl] at hm; cases hm
    | _ => exact h4.elim
  · cases h
theorem flds_put {U ads : List Addr} {H : Hp} {f : Nat} {d : D} {v : Vv} (hd : Den G U ads H d v) : ∀ {fs : List (Nat × D)} {gs : List (Str × Vv)}, Flds G U ads H fs gs → Flds G U ads H (putF f d fs) (L2.putF (G.nm f) v gs)
  | [], gs, h => by
    cases (show gs = [] from h)
    exact ⟨v, [], rfl, hd, rfl⟩
  | (k, x) :: r, gs, h => by
    obtain ⟨w, q, e, h1, h2⟩ := h
    subst e
    by_cases hk : (k == f) = true
    · have e := eq_of_beq hk
      subst e
      unfold putF
      rw [if_pos hk]
      refine ⟨v, q, ?_, hd, h2⟩
      simp [L2.putF]
    · unfold putF
      rw [if_neg hk]
      have ne : G.nm k ≠ G.nm f := fun e => by
        have := G.inj _ _ e
        subst this
        simp at hk
      refine ⟨w, L2.putF (G.nm f) v q, ?_, h1, flds_put hd h2⟩
      simp [L2.putF, ne]
theorem flds_len {U ads : List Addr} {H : Hp} : ∀ {fs : List (Nat × D)} {gs : List (Str × Vv)}, Flds G U ads H fs gs → fs.length = gs.length
  | [], gs, h => by cases (show gs = [] from h); rfl
  | (k, x) :: r, gs, h => by
    obtain ⟨w, q, e, h1, h2⟩ := h
    subst e
    simp [flds_len h2]
end
end Cy
end

section
set_option Elab.async false
set_option linter.all false
set_option maxRecDepth 100000
set_option maxHeartbeats 4000000
/-! A checked statement does what the small language says: the whole. -/
namespace Cy
open PySem PySem.Spec PyProof.Rows L2
section
variable {G : Gn} {C : Cn}
theorem ins_write {U ads : List Addr} {H : Hp} {M : Mem} {l c : Nat} {a dx : Addr} {gs gs' : List (Str × Vv)} {fs' : List (Nat × D)} {ρ : Env} {σ : L2.St} (rel : Rel G U ads H ρ M σ) (hl : ads[l]? = some a) (hH : H a = some (.ins (G.cl c) dx gs)) (f : Flds G U ads H fs' gs') :
    Stp G U ads H [] (M.set l (.ins c fs')) (upd H a (.ins (G.cl c) dx gs')) := by
  have ha : a ∈ ads := List.mem_of_getElem? hl
  have kk := Kp.wr (o' := .ins (G.cl c) dx gs') (G := G) (ads := ads) (rel.mem.sub a ha) hH (fun _ z => by cases z) (fun _ _ z => by cases z)
  exact Stp.wr (mo := .ins c fs') rel.mem hl hH (fun _ z => by cases z) (fun _ _ z => by cases z) ⟨dx, gs', upd_same, Flds.kp kk _ _ f⟩
theorem s_fld (f : Nat) (o e : Ex) : PrS G C (.fld f o e) := fun X W s g tk h => by
  simp only [chkS] at h
  split at h
  · rename_i x y p v pos
    simp only [Bool.and_eq_true, decide_eq_true_eq] at h
    obtain ⟨⟨a1, a2⟩, a3⟩ := h
    subst a1
    refine (ps_fld (pos := pos) (pos' := p) ((all4 G C o).1 X W _ g.toGx (pas tk) a2).1 ((all4 G C e).1 X W _ g.toGx (pas tk) a3).1 sw_att).imp ?_
    rintro D σ H ⟨U, ads, ρ, M, rel, q⟩
    refine ⟨U, ads, ρ, M, rel, (Wk.st (R := Den G) rel q).mono fun v H1 ⟨ext, d, M1, _, st, dv, h2⟩ => ⟨_, _, ρ, M1, rel.stp st, (Wk.st (R := Den G) (rel.stp st) h2).mono fun x H2 ⟨ext2, d2, M2, _, st2, dx, h3⟩ => ?_⟩⟩
    have rel1 := rel.stp st
    have rel2 := rel1.stp st2
    cases d2 with
    | obj l =>
      cases ho : M2[l]? with
      | none => simp only [ho] at h3; exact h3.elim
      | some mo =>
        cases mo with
        | ins c fs =>
          simp only [ho] at h3
          by_cases hc : (C.att c f && Nat.blt fs.length 900) = true
          · rw [if_pos hc] at h3
            rw [Bool.and_eq_true] at hc
            obtain ⟨a, dd, gs, e1, e2, e3, e4⟩ := ins_at rel2.mem dx ho
            obtain ⟨c1, c2⟩ := g.att c f hc.1
            have hlt := Nat.le_of_ble_eq_true hc.2
            have s3 := ins_write rel2 e2 e3 (flds_put (f := f) (dv.stp rel1.mem st2) e4)
            exact ⟨a, G.cl c, dd, gs, e1, e3, c1, c2, by rw [← flds_len e4]; omega, h3 [] σ _ s3 (rel2.stp s3)⟩
          · rw [if_neg hc] at h3
            exact h3.elim
        | _ => simp only [ho] at h3; exact h3.elim
    | _ => exact h3.elim
  · cases h
theorem ain_ok {X : Cx} (G : Gn) (o : BOp) (ho : isAS o = true) : InOp X (opOf o) (rTwo G (aop o)) := by
  intro pins s σ H x y u v Q I rx ry h
  exact aop_ok G o ho pins s σ H x y u v Q I rx ry h
theorem s_fldA (p : BOp) (f : Nat) (o e : Ex) : PrS G C (.fldA p f o e) := fun X W s g tk h => by
  simp only [chkS] at h
  split at h
  · rename_i x y p1 op v pos
    simp only [Bool.and_eq_true, decide_eq_true_eq] at h
    obtain ⟨⟨⟨⟨a1, a2⟩, a3⟩, a4⟩, a5⟩ := h
    subst a1
    subst a2
    refine (ps_fldaug (pos := pos) (tpos := p1) ((all4 G C o).1 X W _ g.toGx (pas tk) a4).1 ((all4 G C e).1 X W _ g.toGx (pas tk) a5).1 (ain_ok G p a3)).imp ?_
    rintro D σ H ⟨U, ads, ρ, M, rel, q⟩
    refine ⟨U, ads, ρ, M, rel, (Wk.st (R := Den G) rel q).mono fun x H1 ⟨ext, d, M1, _, st, dx, h2⟩ => ?_⟩
    have rel1 := rel.stp st
    cases d with
    | obj l =>
      cases ho : M1[l]? with
      | none => simp only [ho] at h2; exact h2.elim
      | some mo =>
        cases mo with
        | ins c fs =>
          simp only [ho] at h2
          cases hg : getF f fs with
          | none => simp only [hg] at h2; exact h2.elim
          | some y =>
            simp only [hg] at h2
            by_cases hc : C.att c f = true
            · rw [if_pos hc] at h2
              obtain ⟨a, dd, gs, e1, e2, e3, e4⟩ := ins_at st.mem dx ho
              obtain ⟨c1, c2⟩ := g.att c f hc
              have fg := flds_get (f := f) e4
              rw [hg] at fg
              obtain ⟨w, f1, f2⟩ := fg
              refine ⟨a, G.cl c, dd, gs, w, e1, e3, c1, c2, f1, _, _, ρ, M1, rel1, (Wk.st (R := Den G) rel1 h2).mono fun u H2 ⟨ext2, d2, M2, _, st2, du, h3⟩ => ?_⟩
              have rel2 := rel1.stp st2
              refine ⟨_, _, M2, y, d2, WE W σ, st2.mem, f2.stp rel1.mem st2, du, (Wk.st (R := Den G) rel2 h3).mono fun z H3 ⟨ext3, d3, M3, _, st3, dz, h4⟩ => ?_⟩
              have rel3 := rel2.stp st3
              cases ho3 : M3[l]? with
              | none => simp only [ho3] at h4; exact h4.elim
              | some mo =>
                cases mo with
                | ins c' fs' =>
                  simp only [ho3] at h4
                  by_cases hq : (c == c' && Nat.blt fs'.length 900) = true
                  · rw [if_pos hq] at h4
                    rw [Bool.and_eq_true] at hq
                    have ec := eq_of_beq hq.1
                    subst ec
                    have hlt := Nat.le_of_ble_eq_true hq.2
                    obtain ⟨a', dd', gs', e1', e2', e3', e4'⟩ := ins_at rel3.mem ((dx.stp rel1.mem st2).stp rel2.mem st3) ho3
                    have ea : a' = a := by
                      rw [e1] at e1'
                      cases e1'
                      rfl
                    subst ea
                    have s4 := ins_write rel3 e2' e3' (flds_put (f := f) dz e4')
                    exact ⟨dd', gs', e3', by rw [← flds_len e4']; omega, h4 [] σ _ s4 (rel3.stp s4)⟩
                  · rw [if_neg hq] at h4
                    exact h4.elim
                | _ => simp only [ho3] at h4; exact h4.elim
            · rw [if_neg hc] at h2
              exact h2.elim
        | _ => simp only [ho] at h2; exact h2.elim
    | _ => exact h2.elim
  · cases h
theorem s_ite (c : Ex) (a b : Cy.St) (ha : PrB G C a) (hb : PrB G C b) : PrS G C (.ite c a b) := fun X W s g tk h => by
  simp only [chkS] at h
  split at h
  · simp only [Bool.and_eq_true] at h
    obtain ⟨⟨a1, a2⟩, a3⟩ := h
    refine (ps_if ((all4 G C c).1 X W _ g.toGx (pas tk) a1).2.1 (ha X W _ g tk a2) (hb X W _ g tk a3)).imp ?_
    rintro D σ H ⟨U, ads, ρ, M, rel, q⟩
    refine ⟨U, ads, ρ, M, rel, (Wk.st (R := Den G) rel q).mono fun x H1 ⟨ext, d, M1, _, st, dx, h2⟩ => ?_⟩
    cases d with
    | bl k =>
      refine ⟨k, dx, ?_⟩
      cases k with
      | true => exact ⟨_, _, ρ, M1, rel.stp st, h2⟩
      | false => exact ⟨_, _, ρ, M1, rel.stp st, h2⟩
    | _ => exact h2.elim
  · cases h
theorem s_whl (n : Nat) (c : Ex) (b : Cy.St) (hb : PrB G C b) : PrS G C (.whl n c b) := fun X W s g tk h => by
  simp only [chkS] at h
  split at h
  · simp only [Bool.and_eq_true] at h
    exact (ps_while g.own ((all4 G C c).1 X W _ g.toGx (pas tk) h.1).2.1 (hb X W _ g tk h.2)).imp while_imp
  · cases h
theorem s_for (t : Tg) (it : Ex) (b : Cy.St) (hb : PrB G C b) : PrS G C (.for_ t it b) := fun X W s g tk h => by
  simp only [chkS] at h
  split at h
  · rename_i tg iter x pos
    simp only [Bool.and_eq_true] at h
    obtain ⟨⟨a1, a2⟩, a3⟩ := h
    have a2' : chkTg X.N X.env.scope X.fn t tg = true := by rw [g.fn1]; exact a2
    have fold : ∀ x, foldedSetIterable iter X.env x = pure x := by
      cases it with
      | src a =>
        simp only [chkI] at a1
        rw [Bool.and_eq_true] at a1
        exact fold_plain a1.1
      | srcS a =>
        simp only [chkI] at a1
        rw [Bool.and_eq_true] at a1
        exact fold_plain a1.1
      | rng1 a =>
        simp only [chkI] at a1
        split at a1
        · exact fun _ => rfl
        · cases a1
      | rng2 a b =>
        simp only [chkI] at a1
        split at a1
        · exact fun _ => rfl
        · cases a1
      | _ => cases a1
    have pt := pgT g.nd g.calm a2'
    rw [← g.K] at pt
    exact (ps_for g.own g.calm ((all4 G C it).2.2.2 X W tg _ g.toGx (pas tk) a1) pt (hb X W _ g tk a3) fold).imp for_imp
  · cases h
theorem flds_zip {U ads : List Addr} {H : Hp} : ∀ {fs : List Nat} {ds : List D} {vs : List Vv}, DenL G U ads H ds vs → fs.length = ds.length → Flds G U ads H (fs.zip ds) ((fs.map G.nm).zip vs)
  | [], [], vs, d, _ => by cases (show vs = [] from d); rfl
  | f :: fs, x :: ds, vs, d, hl => by
    obtain ⟨v, r, e, d1, d2⟩ := d
    subst e
    exact ⟨v, _, rfl, d1, flds_zip d2 (by simpa using hl)⟩
  | [], _ :: _, _, _, hl => by cases hl
  | _ :: _, [], _, _, hl => by cases hl
theorem flds_app {U ads : List Addr} {H : Hp} : ∀ {a b : List (Nat × D)} {c d : List (Str × Vv)}, Flds G U ads H a c → Flds G U ads H b d → Flds G U ads H (a ++ b) (c ++ d)
  | [], b, c, d, h, k => by cases (show c = [] from h); exact k
  | (f, x) :: a, b, c, d, h, k => by
    obtain ⟨v, q, e, h1, h2⟩ := h
    subst e
    exact ⟨v, _, rfl, h1, flds_app h2 k⟩
theorem flds_rev {U ads : List Addr} {H : Hp} : ∀ {a : List (Nat × D)} {c : List (Str × Vv)}, Flds G U ads H a c → Flds G U ads H a.reverse c.reverse
  | [], c, h => by cases (show c = [] from h); rfl
  | (f, x) :: a, c, h => by
    obtain ⟨v, q, e, h1, h2⟩ := h
    subst e
    rw [List.reverse_cons, List.reverse_cons]
    exact flds_app (flds_rev h2) ⟨v, [], rfl, h1, rfl⟩
theorem s_rse0 (c : Nat) : PrS G C (.rse0 c) := fun X W s g tk h => by
  simp only [chkS] at h
  split at h
  · simp only [Bool.and_eq_true, decide_eq_true_eq] at h
    obtain ⟨a1, a2⟩ := h
    subst a1
    by_cases hc : C.exc c = some []
    · obtain ⟨B, newId, initId, bmB, F, q, gC, kC, r⟩ := g.exc0 c hc
      refine (ps_raise g.calm tk (pmk_own F q gC kC r (gl_of a2) (okN_db (g.oknm c)).1)).imp ?_
      rintro D σ H ⟨U, ads, ρ, M, rel, w⟩
      simp only [exS, hc] at w
      exact w [] σ _ none H (Stp.refl rel.mem) (by simpa using rel) ⟨rfl, .inl ⟨rfl, rfl⟩⟩
    · refine ps_no ?_
      rintro D σ H ⟨U, ads, ρ, M, rel, w⟩
      simp only [exS] at w
      exact w
  · cases h
theorem s_rse (c : Nat) (es : Ex) : PrS G C (.rse c es) := fun X W s g tk h => by
  simp only [chkS] at h
  split at h
  · rename_i x p args q pos
    simp only [Bool.and_eq_true, decide_eq_true_eq] at h
    obtain ⟨⟨⟨a1, a2⟩, a3⟩, a4⟩ := h
    subst a1
    obtain ⟨p1, p2, p3, _⟩ := (all4 G C es).2.1 X W args g.toGx (pas tk) a3
    cases args with
    | nil => cases a4
    | cons e es' =>
      rw [List.all_cons, Bool.and_eq_true] at p2
      cases hc : C.exc c with
      | none =>
        refine ps_no ?_
        rintro D σ H ⟨U, ads, ρ, M, rel, w⟩
        simp only [exS, hc] at w
        exact w
      | some fs =>
        cases fs with
        | nil =>
          refine ps_no ?_
          rintro D σ H ⟨U, ads, ρ, M, rel, w⟩
          simp only [exS, hc] at w
          exact w
        | cons f fs =>
          obtain ⟨k, fI, fd, ps, T, iC, tI, F, room, bd, mg⟩ := g.exc1 c f fs hc
          refine (ps_raise g.calm tk (pmk_oex T iC tI F room bd .nil (fun _ _ _ _ _ _ _ z => by obtain ⟨_, _, _, _, _, _, _, _, _, _, _, _, z⟩ := z; exact z.elim) (gl_of a2) mg p1 (okN_db (g.oknm c)).1 (star_plain p2.1) (star_any p2.2))).imp ?_
          rintro D σ H ⟨U, ads, ρ, M, rel, w⟩
          simp only [exS, hc] at w
          refine ⟨U, ads, ρ, M, rel, (Wk.st (R := DenL G) rel w).mono fun vs H1 ⟨ext, ds, M1, _, st, dl, h2⟩ => ?_⟩
          by_cases hq : (fs.length + 1 == ds.length && Nat.blt ds.length 9) = true
          · rw [if_pos hq] at h2
            rw [Bool.and_eq_true] at hq
            have hl : fs.length + 1 = ds.length := eq_of_beq hq.1
            have hs := Nat.le_of_ble_eq_true hq.2
            have hv := dl.length
            refine ⟨by omega, fun a ha => ⟨a, vs ++ [], rfl, by rw [List.append_nil, List.length_cons]; omega, upd_same, fun d hd hne => ⟨rfl, d, (((f :: fs).map G.nm).zip (vs ++ [])).reverse, upd_same, ?_, ?_, ?_⟩⟩⟩
            · rw [upd_ne hne, upd_same]
            · by_cases z : d = a
              · exact absurd z hne
              · exact (upd_ne z).symm.trans hd
            · have hd1 : H1 d = none := by
                by_cases z : d = a
                · exact absurd z hne
                · exact (upd_ne z).symm.trans hd
              have eH : upd (del (upd (upd (upd H1 a (exo a (G.cl c) none)) d (exd d (((f :: fs).map G.nm).zip (vs ++ [])).reverse)) a (exo a (G.cl c) (some d))) a) d (.xd (((f :: fs).map G.nm).zip (vs ++ [])).reverse) = upd H1 d (.xd (((f :: fs).map G.nm).zip vs).reverse) := by
                funext b
                rw [List.append_nil]
                by_cases hb : b = d
                · subst hb; rw [upd_same, upd_same]
                · rw [upd_ne hb, upd_ne hb]
                  by_cases hb2 : b = a
                  · subst hb2
                    show (if b = b then none else _) = _
                    rw [if_pos rfl, ha]
                  · show (if b = a then none else _) = _
                    rw [if_neg hb2, upd_ne hb2, upd_ne hb, upd_ne hb2]
              rw [eH]
              have s2 : Stp G (U ++ ext) (ads ++ ext) H1 [] M1 (upd H1 d (.xd (((f :: fs).map G.nm).zip vs).reverse)) := Stp.laid st.mem hd1
              refine h2 [] σ _ _ _ s2 ((rel.stp st).stp s2) ⟨rfl, .inr ⟨d, _, rfl, upd_same, ?_⟩⟩
              refine Flds.kp (s2.kp st.mem) _ _ (flds_rev (flds_zip dl ?_))
              rw [List.length_cons]; omega
          · rw [if_neg hq] at h2
            exact h2.elim
  · cases h
theorem b_nop : PrB G C .nop := fun X W ss g tk h => by
  cases ss with
  | cons _ _ => cases h
  | nil =>
    refine pss_nil.imp ?_
    rintro D σ H ⟨U, ads, ρ, M, rel, w⟩
    exact WS.nxNow w rel
theorem b_seq (a b : Cy.St) (ha : PrS G C a) (hb : PrB G C b) : PrB G C (.seq a b) := fun X W ss g tk h => by
  cases ss with
  | nil => simp only [chkB] at h; cases h
  | cons s r =>
    simp only [chkB] at h
    rw [Bool.and_eq_true] at h
    refine (pss_cons (ha X W s g tk h.1) (hb X W r g tk h.2)).imp ?_
    rintro D σ H ⟨U, ads, ρ, M, rel, w⟩
    simp only [exS] at w
    refine ⟨U, ads, ρ, M, rel, ?_⟩
    cases hv : exS C a ρ M with
    | nx r M1 =>
      rw [hv] at w
      exact fun ext σ' H' s r' => ⟨_, _, r, M1, r', WS.shift w s⟩
    | rt d M1 => rw [hv] at w; exact w
    | bk r M1 => rw [hv] at w; exact w
    | ct r M1 => rw [hv] at w; exact w
    | ex e r M1 => rw [hv] at w; exact w
    | bad => rw [hv] at w; exact w
theorem no_B {st : Cy.St} (h : ∀ nm N sc ss, chkB nm N st sc ss = false) : PrB G C st := fun X W ss g tk q => by rw [h] at q; cases q
theorem no_S {st : Cy.St} (h : ∀ nm N sc ss, chkS nm N st sc ss = false) : PrS G C st := fun X W ss g tk q => by rw [h] at q; cases q
theorem all2 (G : Gn) (C : Cn) (st : Cy.St) : PrS G C st ∧ PrB G C st := by
  induction st with
  | nop => exact ⟨s_nop, b_nop⟩
  | brk => exact ⟨s_brk, no_B fun _ _ _ _ => rfl⟩
  | cnt => exact ⟨s_cnt, no_B fun _ _ _ _ => rfl⟩
  | ret e => exact ⟨s_ret e, no_B fun _ _ _ _ => rfl⟩
  | exp e => exact ⟨s_exp e, no_B fun _ _ _ _ => rfl⟩
  | set t e => exact ⟨s_set t e, no_B fun _ _ _ _ => rfl⟩
  | par is es => exact ⟨s_par is es, no_B fun _ _ _ _ => rfl⟩
  | aug o i e => exact ⟨s_aug o i e, no_B fun _ _ _ _ => rfl⟩
  | put o i e => exact ⟨s_put o i e, no_B fun _ _ _ _ => rfl⟩
  | fld f o e => exact ⟨s_fld f o e, no_B fun _ _ _ _ => rfl⟩
  | fldA p f o e => exact ⟨s_fldA p f o e, no_B fun _ _ _ _ => rfl⟩
  | ite c a b ha hb => exact ⟨s_ite c a b ha.2 hb.2, no_B fun _ _ _ _ => rfl⟩
  | whl n c b hb => exact ⟨s_whl n c b hb.2, no_B fun _ _ _ _ => rfl⟩
  | for_ t it b hb => exact ⟨s_for t it b hb.2, no_B fun _ _ _ _ => rfl⟩
  | rse c es => exact ⟨s_rse c es, no_B fun _ _ _ _ => rfl⟩
  | rse0 c => exact ⟨s_rse0 c, no_B fun _ _ _ _ => rfl⟩
  | seq a b ha hb => exact ⟨no_S fun _ _ _ _ => rfl, b_seq a b ha.1 hb.2⟩
end
end Cy
end

section
set_option Elab.async false
set_option linter.all false
set_option maxRecDepth 100000
set_option maxHeartbeats 4000000
/-! Functions: every function of a checked program keeps its promise. -/
namespace Cy
open PySem PySem.Spec PyProof.Rows L2

theorem Room.le {j k : Nat} {A : Around} (h : Room k A) (hj : j ≤ k) : Room j A := ⟨h.hd, by have := h.dp; omega, by have := h.un; omega⟩
/-- one function of the program: where it stands, its text -/
structure FnL (G : Gn) (K : PySem.W.Frag) (F : Fn) (a : Addr) (fd : FuncData) (ps : List Str) : Prop where
  ex : ∃ (x qual : Str) (params : Arguments) (body : List Stmt) (scope : Scope) (N : List Str), FunD K x qual params body scope [] [] a fd ∧ FnScope N ps scope ∧ ps.length = F.np ∧ N.length = F.n ∧
    (N.all okN) = true ∧ chkB G.nm N F.body scope body = true
  bd : Binds K fd ps []
/-- the program's text, linked -/
structure Lnk (G : Gn) (P : Prog) (Pr : Program) (w : World) (K : PySem.W.Frag) (mg : Str → Option Value) (base : Heap) (ad : Nat → Addr) : Prop where
  eK : G.K = K
  eW : G.w = w
  fn : ∀ f F, P.fn f = some F → ∃ fd ps, FnL G K F (ad f) fd ps
  glob : ∀ f, P.glob f = true → (P.fn f).isSome = true ∧ PySem.W.keepIn K (.ref (ad f)) = true ∧ mg (G.nm f) = some (.ref (ad f))
  oknm : ∀ i, okN (G.nm i) = true
  con : ∀ x d, P.con x = some d → ∃ v u, mg (G.nm x) = some u ∧ RelV v u ∧ ∀ U ads H, Den G U ads H d v
  bi : ∀ b, mg (biName b) = none
  rng : mg "range" = none
  isi : mg "isinstance" = none
  ty : ∀ t, mg (tyName t) = none
  meth : ∀ c m f, P.meth c m = some f → (P.fn f).isSome = true ∧ Cls K (G.cl c) ∧ Meth K (G.cl c) (G.nm m) (ad f)
  init : ∀ c f, P.init c = some f → (P.fn f).isSome = true ∧ Mk K (G.cl c) (ad f) ∧ mg (G.nm c) = some (.ref (G.cl c))
  att : ∀ c f, P.att c f = true → Cls K (G.cl c) ∧ NoAttr K (G.cl c) (G.nm f)
  exc0 : ∀ c, P.exc c = some [] → ∃ B newId initId bmB, ExcBaseFacts B newId initId bmB ∧ PySem.W.excIn K (G.cl c) bmB newId = true ∧ mg (G.nm c) = some (.ref (G.cl c)) ∧ PySem.W.keepIn K (.ref (G.cl c)) = true ∧
    ∀ (M : Model) (h : Heap), K.In h → PySem.W.Looks M h (isSubtype (.ref (G.cl c)) (.type "BaseException")) true ∧ PySem.W.Looks M h (typeOf (.ref (G.cl c))) (.type "type")
  exc1 : ∀ c f fs, P.exc c = some (f :: fs) → ∃ k fI fd ps, k ≤ 2 ∧ OexC K (G.cl c) ∧ PySem.W.findIn K (.ref (G.cl c)) "__init__" = some (some (.ref fI)) ∧ PySem.W.typeIn K (.ref fI) = some (.type "function") ∧
    FnOk Pr w K mg base (L2.CX Pr w) k fI fd ps (spX G (f :: fs) (G.cl c)) ∧ Binds K fd ps [] ∧ mg (G.nm c) = some (.ref (G.cl c))
section
variable {G : Gn} {P : Prog} {Pr : Program} {w : World} {K : PySem.W.Frag} {mg : Str → Option Value} {base : Heap} {ad : Nat → Addr}
theorem begin_rel {U ads : List Addr} {H : Hp} {M : Mem} {ds : List D} {vs : List Vv} {N : List Str} {n : Nat} (m : MemOk G U ads H M) (d : DenL G U ads H ds vs) (hn : N.length = n) : Rel G U ads H (begin_ n ds) M (L2.start N vs) := by
  have hl := d.length
  refine ⟨m, ?_, fun i x q => ?_⟩
  · unfold begin_ L2.start
    simp [hl, hn]
  · unfold begin_ at q
    unfold L2.start
    by_cases hi : i < ds.length
    · rw [List.getElem?_append_left (by simpa using hi), List.getElem?_map] at q
      cases e : ds[i]? with
      | none => rw [e] at q; cases q
      | some y =>
        rw [e] at q
        cases q
        obtain ⟨v, h1, h2⟩ := d.get e
        refine ⟨v, ?_, h2⟩
        rw [List.getElem?_append_left (by simp; omega), List.getElem?_map, h1]
        rfl
    · rw [List.getElem?_append_right (by simpa using hi), List.getElem?_replicate] at q
      split at q <;> cases q
theorem res_ws {U ads : List Addr} {H : Hp} {o : Oc} {Q : VK} {E : XK} (h : Wk G (Den G) U ads H o.res Q E) : WS G U ads H o { nx := fun _ H' => Q .non H', rt := Q } (fun cls d _ H => E cls d H) := by
  cases o with
  | nx r M => exact fun ext σ' H' s _ => h ext .non H' s rfl
  | rt d M => exact fun ext v H' s hd => h ext v H' s hd
  | bk r M => exact False.elim h
  | ct r M => exact False.elim h
  | ex e r M => exact fun ext σ' cls d H' s _ he => h ext cls d H' s he
  | bad => exact h
/-- every function, at every level -/
theorem fn_all (L : Lnk G P Pr w K mg base ad) : ∀ (k f : Nat) (F : Fn) (fd : FuncData) (ps : List Str), P.fn f = some F → FnL G K F (ad f) fd ps → FnOk Pr w K mg base (L2.CX Pr w) (2 * k + 4) (ad f) fd ps (spF G (runF P k f))
  | 0, f, F, fd, ps, hF, fl => by
    refine ⟨fun vs H Q E h => ?_, fun A outer s H args us vs Q E _ _ _ _ h => ?_⟩
    · obtain ⟨U, ads, M, ds, _, _, h⟩ := h
      exact h.elim
    · obtain ⟨U, ads, M, ds, _, _, h⟩ := h
      exact h.elim
  | k + 1, f, F, fd, ps, hF, fl => by
    obtain ⟨x, qual, params, body, scope, N, fD, S, hp, hN, okn, chk⟩ := fl.ex
    have ih : ∀ (g : Nat) (F' : Fn), P.fn g = some F' → ∃ fd ps, FnOk Pr w K mg base (L2.CX Pr w) (2 * k + 4) (ad g) fd ps (spF G (runF P k g)) ∧ Binds K fd ps [] := fun g F' hF' => by
      obtain ⟨fd', ps', fl'⟩ := L.fn g F' hF'
      exact ⟨fd', ps', fn_all L k g F' fd' ps' hF' fl', fl'.bd⟩
    have some_of : ∀ f, (P.fn f).isSome = true → ∃ F, P.fn f = some F := fun f h => Option.isSome_iff_exists.mp h
    have hrun : ∀ ds M, runF P (k + 1) f ds M = if ds.length == F.np then (exS (P.cn (runF P k)) F.body (begin_ F.n ds) M).res else .bad := fun ds M => by
      show (match P.fn f with
        | some F => if ds.length == F.np then (exS (P.cn (runF P k)) F.body (begin_ F.n ds) M).res else .bad
        | none => .bad) = _
      rw [hF]
    have e4 : 2 * (k + 1) + 4 = (2 * k + 5) + 1 := by omega
    rw [e4]
    refine fD.ok S (fun vs H Q E h => ?_) (fun cdv A outer s H vs Q E hr h => ?_)
    · obtain ⟨U, ads, M, ds, m, dl, h⟩ := h
      rw [hrun] at h
      by_cases q : (ds.length == F.np) = true
      · rw [← dl.length, eq_of_beq q, hp]
      · rw [if_neg q] at h
        exact h.elim
    · obtain ⟨U, ads, M, ds, m, dl, h⟩ := h
      rw [hrun] at h
      by_cases q : (ds.length == F.np) = true
      · rw [if_pos q] at h
        have sx : Sx G (P.cn (runF P k)) (cxOf (L2.CX Pr w) Pr w K mg base N qual scope (ad f) cdv A outer s H E) := {
          K := L.eK
          eW := L.eW
          nd := S.nd
          calm := rfl
          un := by have := hr.un; show (A.deeper _).units + 65 < cLine; omega
          okn := fun i x hx => List.all_eq_true.mp okn x (List.mem_of_getElem? hx)
          oknm := L.oknm
          con := L.con
          bi := L.bi
          rng := L.rng
          isi := L.isi
          ty := L.ty
          fn := fun g hg => by
            obtain ⟨a1, a2, a3⟩ := L.glob g hg
            obtain ⟨F', hF'⟩ := some_of g a1
            obtain ⟨fd', ps', q1, q2⟩ := ih g F' hF'
            exact ⟨_, ad g, ⟨fd', ps', q1, q2⟩, Room.le hr (by omega), a2, a3⟩
          meth := fun c m' g hg => by
            obtain ⟨a1, a2, a3⟩ := L.meth c m' g hg
            obtain ⟨F', hF'⟩ := some_of g a1
            obtain ⟨fd', ps', q1, q2⟩ := ih g F' hF'
            exact ⟨_, ad g, ⟨fd', ps', q1, q2⟩, Room.le hr (by omega), a2, a3⟩
          init := fun c g hg => by
            obtain ⟨a1, a2, a3⟩ := L.init c g hg
            obtain ⟨F', hF'⟩ := some_of g a1
            obtain ⟨fd', ps', q1, q2⟩ := ih g F' hF'
            exact ⟨_, ad g, ⟨fd', ps', q1, q2⟩, Room.le hr (by omega), a2, a3⟩
          att := L.att
          fn1 := rfl
          kind := S.kind
          own := passes_of rfl
          exc0 := L.exc0
          exc1 := fun c f' fs hc => by
            obtain ⟨k', fI, fd', ps', a0, a1, a2, a3, a4, a5, a6⟩ := L.exc1 c f' fs hc
            exact ⟨k', fI, fd', ps', a1, a2, a3, a4, Room.le hr (by omega), a5, a6⟩ }
        refine ⟨_, (all2 G (P.cn (runF P k)) F.body).2 _ (fun cls d _ H => E cls d H) body sx (takes_of rfl rfl rfl rfl) chk, U, ads, begin_ F.n ds, M, begin_rel m dl hN, res_ws h⟩
      · rw [if_neg q] at h
        exact h.elim
end
end Cy
end

section
set_option Elab.async false
set_option linter.all false
set_option maxRecDepth 100000
set_option maxHeartbeats 4000000
/-! The link: tables of a law, what the head says of them, Lnk. -/
namespace Cy
open PySem PySem.Spec PyProof.Rows L2

/-! ### names by numbers -/
def look1 {α : Type} : List (Nat × α) → Nat → Option α
  | [], _ => none
  | (c, f) :: r, c' => if c == c' then some f else look1 r c'
theorem look1_mem {α : Type} {c' : Nat} {f' : α} : ∀ {l : List (Nat × α)}, look1 l c' = some f' → (c', f') ∈ l
  | (c, f) :: r, h => by
    unfold look1 at h
    split at h
    · rename_i q
      cases h
      rw [← eq_of_beq q]
      exact List.mem_cons_self
    · exact List.mem_cons_of_mem _ (look1_mem h)
def nmOf (l : List (Nat × Str)) (i : Nat) : Str := match look1 l i with
  | some x => x
  | none => ⟨#[2000000 + i]⟩
def lowN (x : Str) : Bool := x.cps.toList.all fun c => Nat.blt c 2000000
theorem nodup_snd {x : Str} {f g : Nat} : ∀ {l : List (Nat × Str)}, (l.map (·.2)).Nodup → (f, x) ∈ l → (g, x) ∈ l → f = g
  | p :: r, nd, h1, h2 => by
    have nd : (p.2 :: r.map (·.2)).Nodup := nd
    rw [List.nodup_cons] at nd
    rcases List.mem_cons.mp h1 with e1 | h1
    · rcases List.mem_cons.mp h2 with e2 | h2
      · rw [← e1] at e2
        exact (Prod.mk.inj e2).1.symm
      · exact absurd (List.mem_map.mpr ⟨(g, x), h2, by rw [← e1]⟩) nd.1
    · rcases List.mem_cons.mp h2 with e2 | h2
      · exact absurd (List.mem_map.mpr ⟨(f, x), h1, by rw [← e2]⟩) nd.1
      · exact nodup_snd nd.2 h1 h2
theorem nmOf_inj {l : List (Nat × Str)} (nd : (l.map (·.2)).Nodup) (lo : (l.all fun p => lowN p.2) = true) : ∀ f g, nmOf l f = nmOf l g → f = g := fun f g e => by
  unfold nmOf at e
  have far : ∀ (x : Str) (i j : Nat), (j, x) ∈ l → x ≠ ⟨#[2000000 + i]⟩ := fun x i j hx q => by
    have z := List.all_eq_true.mp lo _ hx
    rw [q] at z
    have z2 : (Nat.blt (2000000 + i) 2000000 && true) = true := z
    rw [Bool.and_true] at z2
    have := Nat.le_of_ble_eq_true z2
    omega
  cases hf : look1 l f with
  | none =>
    cases hg : look1 l g with
    | none =>
      rw [hf, hg] at e
      have e2 : (⟨#[2000000 + f]⟩ : Str) = ⟨#[2000000 + g]⟩ := e
      injection e2 with e3
      have e4 : #[2000000 + f].toList = #[2000000 + g].toList := by rw [e3]
      simp at e4
      exact e4
    | some y =>
      rw [hf, hg] at e
      exact absurd e.symm (far y f g (look1_mem hg))
  | some x =>
    cases hg : look1 l g with
    | none =>
      rw [hf, hg] at e
      exact absurd e (far x g f (look1_mem hf))
    | some y =>
      rw [hf, hg] at e
      have e2 : x = y := e
      subst e2
      exact nodup_snd nd (look1_mem hf) (look1_mem hg)
theorem nmOf_ok {l : List (Nat × Str)} (h : (l.all fun p => okN p.2) = true) (i : Nat) : okN (nmOf l i) = true := by
  unfold nmOf
  split
  · rename_i x e
    exact List.all_eq_true.mp h _ (look1_mem e)
  · have h1 : ∀ s : Str, s.cps.size ≠ 1 → (((⟨#[2000000 + i]⟩ : Str) == s) = false) := fun s hs => by
      cases q : ((⟨#[2000000 + i]⟩ : Str) == s) with
      | false => rfl
      | true =>
        have e := eq_of_beq q
        subst e
        exact absurd rfl hs
    unfold okN
    rw [h1 _ (by decide), h1 _ (by decide), h1 _ (by decide)]
    rfl

/-! ### constants -/
def dvOf : D → Option He.Dv
  | .non => some .non
  | .bl b => some (.bl b)
  | .int i => some (.int i)
  | .str s => if okC s then some (.str (sg s)) else none
  | _ => none
def dvsOf : List D → Option (List He.Dv)
  | [] => some []
  | d :: ds => match dvOf d, dvsOf ds with
    | some v, some vs => some (v :: vs)
    | _, _ => none
section
variable {G : Gn} {U ads : List Addr} {H : Hp}
theorem dv_den {d : D} {v : He.Dv} (h : dvOf d = some v) : Den G U ads H d (v.v G.K) := by
  cases d with
  | non => cases h; rfl
  | bl b => cases h; rfl
  | int i => cases h; rfl
  | str s =>
    have h : (if okC s then some (He.Dv.str (sg s)) else none) = some v := h
    split at h
    · rename_i q
      cases h
      exact ⟨rfl, okS_of q⟩
    · cases h
  | _ => cases h
theorem dvs_den : ∀ {ds : List D} {vs : List He.Dv}, dvsOf ds = some vs → DenL G U ads H ds (vs.map (He.Dv.v G.K))
  | [], vs, h => by cases h; rfl
  | d :: ds, vs, h => by
    unfold dvsOf at h
    cases h1 : dvOf d with
    | none => rw [h1] at h; cases h
    | some v =>
      cases h2 : dvsOf ds with
      | none => rw [h1, h2] at h; cases h
      | some ws =>
        rw [h1, h2] at h
        cases h
        exact ⟨_, _, rfl, dv_den h1, dvs_den h2⟩
end
/-- the module's name x stands for d (a scalar, a tuple of scalars) -/
def conB (K : PySem.W.Frag) (x : Str) : D → Bool
  | .int i => (He.Fa.int x i).ok K
  | .str s => okC s && (He.Fa.str x (sg s)).ok K
  | .tup ds => (He.Fa.glo x).ok K && (match dvsOf ds with
    | some vs => He.tupB K x vs
    | none => false)
  | .dct ks ds => (He.Fa.glo x).ok K && (match dvsOf ds with
    | some vs => ks.all okC && ks.length == ds.length && nodupK ks && He.valsB K (He.ga K x) ((ks.map sg).zip vs)
    | none => false)
  | _ => false
def tabOf (x : Str) : D → List He.Tab
  | .dct ks _ => [(fun K => He.ga K x, ks.map sg)]
  | _ => []
theorem tab_none {K : PySem.W.Frag} {a : Addr} {P : Params} {ks : List Str} (h : He.dicW K a = some (He.keysIn P ks)) {z : Str} (hz : z ∉ ks) : PySem.W.nsIn K a z = some none := by
  unfold He.dicW at h
  unfold PySem.W.nsIn
  cases q : K.lookup a with
  | none => rw [q] at h; cases h
  | some o =>
    obtain ⟨oc, od, dt, osl⟩ := o
    rw [q] at h
    cases oc with
    | type c =>
      cases od with
      | none =>
        cases dt with
        | dict es n =>
          have h1 : (match decide (c = "dict") && (osl.isEmpty && !(a == sysModules)) with
            | true => some (es.toList.map He.keyOf)
            | false => none) = some (He.keysIn P ks) := h
          split at h1
          · have e := Option.some.inj h1
            have main : ∀ (l : List DictEntry) (ks : List Str), l.map He.keyOf = He.keysIn P ks → z ∉ ks → l.find? (·.key.isStr z) = none ∧ l.any (·.refKey) = false := by
              intro l
              induction l with
              | nil => intro ks _ _; exact ⟨rfl, rfl⟩
              | cons en r ih =>
                intro ks he hn
                cases ks with
                | nil => cases he
                | cons k ks =>
                  have he : He.keyOf en :: r.map He.keyOf = some (k, PyData.keyHash P k) :: He.keysIn P ks := he
                  injection he with e1 e2
                  obtain ⟨i1, i2⟩ := ih ks e2 (fun q => hn (List.mem_cons_of_mem _ q))
                  unfold He.keyOf at e1
                  split at e1
                  · rename_i x t hk
                    have e3 := (Prod.mk.inj (Option.some.inj e1)).1
                    have hx : (en.key.isStr z) = false := by
                      rw [hk]
                      show (x == z) = false
                      cases q : x == z with
                      | false => rfl
                      | true =>
                        have e4 := eq_of_beq q
                        rw [← e4, e3] at hn
                        exact absurd List.mem_cons_self hn
                    have hr : en.refKey = false := by
                      unfold DictEntry.refKey
                      rw [hk]
                    refine ⟨?_, ?_⟩
                    · rw [List.find?_cons, hx]; exact i1
                    · rw [List.any_cons, hr, i2]; rfl
                  · cases e1
            obtain ⟨m1, m2⟩ := main _ _ e hz
            show (match es.toList.find? (·.key.isStr z) with
              | some e => some (some e.val)
              | none => if es.toList.any (·.refKey) then none else some none) = some none
            rw [m1, m2]
            rfl
          · cases h1
        | _ => cases h
      | some b => cases dt <;> cases h
    | _ => cases od <;> cases dt <;> cases h
/-! ### the values of a written dict -/
theorem valV_zip {K : PySem.W.Frag} : ∀ {ks : List (List Nat)} {vs : List He.Dv} {z : Str}, nodupK ks = true → ks.length = vs.length →
    (valV ((ks.zip vs).map fun q => ((Sum.inr (sg q.1) : Key), q.2.v K)) (Sum.inr z) = none → z ∉ ks.map sg) ∧
    ∀ v, valV ((ks.zip vs).map fun q => ((Sum.inr (sg q.1) : Key), q.2.v K)) (Sum.inr z) = some v → ∃ q ∈ (ks.map sg).zip vs, q.1 = z ∧ v = q.2.v K
  | [], [], z, _, _ => ⟨fun _ h => (by cases h), fun v h => (by cases h)⟩
  | k :: ks, w :: vs, z, nd, hl => by
    have nd : (!ks.contains k && nodupK ks) = true := nd
    rw [Bool.and_eq_true] at nd
    obtain ⟨i1, i2⟩ := valV_zip (K := K) (z := z) nd.2 (show ks.length = vs.length by simpa using hl)
    simp only [List.zip_cons_cons, List.map_cons]
    rw [valV_cons]
    by_cases h : (Sum.inr (sg k) : Key) = Sum.inr z
    · rw [if_pos h]
      have e : sg k = z := Sum.inr.inj h
      exact ⟨fun q => (by cases q), fun v q => (by cases q; exact ⟨(sg k, w), List.mem_cons_self, e, rfl⟩)⟩
    · rw [if_neg h]
      refine ⟨fun q hm => ?_, fun v q => ?_⟩
      · rcases List.mem_cons.mp hm with e | hm
        · exact h (by rw [e])
        · exact i1 q hm
      · obtain ⟨p, hp, e1, e2⟩ := i2 v q
        exact ⟨p, List.mem_cons_of_mem _ hp, e1, e2⟩
  | [], _ :: _, _, _, hl => by cases hl
  | _ :: _, [], _, _, hl => by cases hl
theorem denD_zip {G : Gn} {U ads : List Addr} {H : Hp} : ∀ {ks : List (List Nat)} {ds : List D} {vs : List He.Dv}, ks.all okC = true → ks.length = ds.length → dvsOf ds = some vs →
    DenD G U ads H ks ds ((ks.zip vs).map fun q => ((Sum.inr (sg q.1) : Key), q.2.v G.K))
  | [], [], vs, _, _, h => by cases h; exact ⟨rfl, rfl⟩
  | k :: ks, d :: ds, vs, hk, hl, h => by
    unfold dvsOf at h
    cases h1 : dvOf d with
    | none => rw [h1] at h; cases h
    | some v =>
      cases h2 : dvsOf ds with
      | none => rw [h1, h2] at h; cases h
      | some ws =>
        rw [h1, h2] at h
        cases h
        rw [List.all_cons, Bool.and_eq_true] at hk
        exact ⟨k, ks, _, _, rfl, rfl, okS_of hk.1, dv_den h1, denD_zip hk.2 (by simpa using hl) h2⟩
  | [], _ :: _, _, _, hl, _ => by cases hl
  | _ :: _, [], _, _, hl, _ => by cases hl
theorem dvs_len : ∀ {ds : List D} {vs : List He.Dv}, dvsOf ds = some vs → ds.length = vs.length
  | [], vs, h => by cases h; rfl
  | d :: ds, vs, h => by
    unfold dvsOf at h
    cases h1 : dvOf d with
    | none => rw [h1] at h; cases h
    | some v =>
      cases h2 : dvsOf ds with
      | none => rw [h1, h2] at h; cases h
      | some ws =>
        rw [h1, h2] at h
        cases h
        simp [dvs_len h2]
theorem con_ok {G : Gn} {h : Heap} {mg : Str → Option Value} {x : Str} {d : D} (X : G.K.In h) (g : h.Ns mainGlobals mg) (c : conB G.K x d = true)
    (tabs : ∀ t ∈ tabOf x d, He.dicW G.K (t.1 G.K) = some (He.keysIn G.w.params t.2)) : ∃ v u, mg x = some u ∧ RelV v u ∧ ∀ U ads H, Den G U ads H d v := by
  cases d with
  | int i =>
    obtain ⟨t, e⟩ := He.int_ok X g (x := x) (i := i) c
    exact ⟨.int i, _, e, ⟨t, rfl⟩, fun _ _ _ => rfl⟩
  | str s =>
    have c : (okC s && (He.Fa.str x (sg s)).ok G.K) = true := c
    rw [Bool.and_eq_true] at c
    obtain ⟨t, e⟩ := He.str_ok X g (x := x) (z := sg s) c.2
    exact ⟨.str (sg s), _, e, ⟨t, rfl⟩, fun _ _ _ => ⟨rfl, okS_of c.1⟩⟩
  | tup ds =>
    have c : ((He.Fa.glo x).ok G.K && (match dvsOf ds with
      | some vs => He.tupB G.K x vs
      | none => false)) = true := c
    rw [Bool.and_eq_true] at c
    have e := He.glo_ok X g c.1
    cases hv : dvsOf ds with
    | none => rw [hv] at c; cases c.2
    | some vs =>
      rw [hv] at c
      exact ⟨.ref (He.ga G.K x), _, e, rfl, fun U ads H => ⟨_, _, rfl, He.tupB_ok c.2 H, dvs_den hv⟩⟩
  | dct ks ds =>
    have c : ((He.Fa.glo x).ok G.K && (match dvsOf ds with
      | some vs => ks.all okC && ks.length == ds.length && nodupK ks && He.valsB G.K (He.ga G.K x) ((ks.map sg).zip vs)
      | none => false)) = true := c
    rw [Bool.and_eq_true] at c
    have e := He.glo_ok X g c.1
    cases hv : dvsOf ds with
    | none => rw [hv] at c; cases c.2
    | some vs =>
      rw [hv] at c
      obtain ⟨_, c⟩ := c
      have c : (ks.all okC && ks.length == ds.length && nodupK ks && He.valsB G.K (He.ga G.K x) ((ks.map sg).zip vs)) = true := c
      simp only [Bool.and_eq_true] at c
      obtain ⟨⟨⟨c1, c2⟩, c3⟩, c4⟩ := c
      have hl : ks.length = ds.length := eq_of_beq c2
      have ht := tabs _ List.mem_cons_self
      refine ⟨.ref (He.ga G.K x), _, e, rfl, fun U ads H => ⟨He.ga G.K x, (ks.zip vs).map fun q => ((Sum.inr (sg q.1) : Key), q.2.v G.K), rfl, .inr ⟨He.dicW_ok ht, fun z => ?_⟩, denD_zip c1 hl hv⟩⟩
      obtain ⟨z1, z2⟩ := valV_zip (K := G.K) (z := z) c3 (by rw [hl, dvs_len hv])
      refine ⟨fun q => tab_none ht (z1 q), fun v q => ?_⟩
      obtain ⟨p, hp, e1, e2⟩ := z2 v q
      obtain ⟨u, u1, u2⟩ := He.valsB_ok c4 hp
      exact ⟨u, by rw [← e1]; exact u1, by rw [e2]; exact u2⟩
  | _ => cases c
/-! ### a law's tables -/
/-- a function: its datum, what it does, its names (slots), its parameters -/
structure FD where
  dd : He.DefD
  ir : Fn
  N : List Str
  ps : List Str
structure LT where
  fns : List (Nat × FD)
  nms : List (Nat × Str)
  cons : List (Nat × D)
  meths : List (Nat × Nat × Nat)
  inits : List (Nat × Nat)
  atts : List (Nat × Nat)
  frees : List Str
def look2 : List (Nat × Nat × Nat) → Nat → Nat → Option Nat
  | [], _, _ => none
  | (c, m, f) :: r, c', m' => if c == c' && m == m' then some f else look2 r c' m'
theorem look2_mem {c' m' f' : Nat} : ∀ {l : List (Nat × Nat × Nat)}, look2 l c' m' = some f' → (c', m', f') ∈ l
  | (c, m, f) :: r, h => by
    unfold look2 at h
    split at h
    · rename_i q
      rw [Bool.and_eq_true] at q
      cases h
      rw [← eq_of_beq q.1, ← eq_of_beq q.2]
      exact List.mem_cons_self
    · exact List.mem_cons_of_mem _ (look2_mem h)
def LT.prog (L : LT) : Prog where
  fn f := (look1 L.fns f).map FD.ir
  glob f := match look1 L.fns f with
    | some F => F.dd.at_.2.isNone
    | none => false
  con := look1 L.cons
  meth := look2 L.meths
  init := look1 L.inits
  att c f := L.atts.any fun p => p.1 == c && p.2 == f
  exc := fun _ => none
  err := fun _ => .non
def fnScopeB (N ps : List Str) (sc : Scope) : Bool :=
  decide (sc.kind = .function) && !sc.isCoroutine && !sc.isGenerator && decide N.Nodup && decide (N.take ps.length = ps) && (ps.all fun x => locB sc x) && sc.names.all fun y => !(decide (y.2 = .free))
theorem fnScope_ok {N ps : List Str} {sc : Scope} (h : fnScopeB N ps sc = true) : FnScope N ps sc := by
  unfold fnScopeB at h
  simp only [Bool.and_eq_true, decide_eq_true_eq] at h
  obtain ⟨⟨⟨⟨⟨⟨h1, h2⟩, h3⟩, h4⟩, h5⟩, h6⟩, h7⟩ := h
  refine ⟨h1, by simpa using h2, by simpa using h3, h4, h5, fun x hx => ?_, fun y hy => ?_⟩
  · have q := List.all_eq_true.mp h6 x hx
    unfold locB at q
    split at q
    · rename_i z; exact .inl z
    · rename_i z; exact .inr z
    · cases q
  · have q := List.all_eq_true.mp h7 y hy
    simpa using q
/-- one function, checked against its text -/
def FD.ok (L : LT) (F : FD) : Bool := fnScopeB F.N F.ps F.dd.scope && F.ps.length == F.ir.np && F.N.length == F.ir.n && F.N.all okN && chkB (nmOf L.nms) F.N F.ir.body F.dd.scope F.dd.body && F.dd.dfl.isEmpty && F.dd.kwd.isEmpty
/-- what the tables say of themselves -/
structure LT.Ok (L : LT) : Prop where
  nd : (L.nms.map (·.2)).Nodup
  lo : (L.nms.all fun p => lowN p.2) = true
  okn : (L.nms.all fun p => okN p.2) = true
  fns : ∀ q ∈ L.fns, q.2.ok L = true
  bds : ∀ F ∈ L.fns.map (·.2), ∀ (kV doc pm : Value) (an : Option Addr) (cdv ct : Value) (us : List Value), us.length = F.ps.length → bindArgs (PySem.W.fnOf F.dd.name F.dd.qual F.dd.params F.dd.body F.dd.scope .none kV doc pm an cdv ct) ⟨us, []⟩ = pure (F.ps.zip us)
  names : ∀ (f : Nat) (F : FD), look1 L.fns f = some F → F.dd.at_.2 = none → nmOf L.nms f = F.dd.at_.1
  meths : ∀ q ∈ L.meths, ∃ F, look1 L.fns q.2.2 = some F ∧ F.dd.at_ = (nmOf L.nms q.1, some (nmOf L.nms q.2.1))
  inits : ∀ q ∈ L.inits, ∃ F, look1 L.fns q.2 = some F ∧ F.dd.at_ = (nmOf L.nms q.1, some ("__init__" : Str))
  free : ∀ b, biName b ∈ L.frees
  freeT : ∀ t, tyName t ∈ L.frees
  freeR : ("range" : Str) ∈ L.frees ∧ ("isinstance" : Str) ∈ L.frees
/-- what is asked of the part of the heap -/
def LT.ck (L : LT) (K : PySem.W.Frag) : Bool :=
  (L.fns.all fun q => match q.2.dd.at_.2 with
    | none => (He.Fa.glo q.2.dd.at_.1).ok K
    | some _ => true) &&
  (L.frees.all fun x => (He.Fa.free x).ok K) &&
  (L.cons.all fun q => conB K (nmOf L.nms q.1) q.2) &&
  (L.meths.all fun q => (He.Fa.cls (nmOf L.nms q.1)).ok K && (He.Fa.meth (nmOf L.nms q.1) (nmOf L.nms q.2.1)).ok K) &&
  (L.inits.all fun q => (He.Fa.mkr (nmOf L.nms q.1)).ok K && (He.Fa.glo (nmOf L.nms q.1)).ok K) &&
  (L.atts.all fun q => (He.Fa.cls (nmOf L.nms q.1)).ok K && (He.Fa.noat (nmOf L.nms q.1) (nmOf L.nms q.2)).ok K)
def LT.tabs (L : LT) : List He.Tab := L.cons.flatMap fun q => tabOf (nmOf L.nms q.1) q.2
def LT.defs (L : LT) : List He.DefD := L.fns.map fun q => q.2.dd
abbrev AlC : Type := He.AlT × Bool
def obsC (L : LT) (K : PySem.W.Frag) : AlC := (He.obsT [] L.defs L.tabs K, L.ck K)
def obsCG (n : Nat) (L : LT) (g : Addr → Option Obj) : AlC := obsC L (He.frG g (He.asD g n))
def valC (L : LT) (w : World) : AlC := (He.valT L.defs L.tabs w, true)
def SaysC (L : LT) (w : World) (K : PySem.W.Frag) : Prop := obsC L K = valC L w
def hookC (n : Nat) (L : LT) : PySem.W.Hook where
  α := AlC
  obs := fun s => obsCG n L s.heap.get?
  val := fun w => valC L w
  says := fun w h => ∃ K : PySem.W.Frag, K.In h ∧ SaysC L w K
  of := fun _ _ e => ⟨_, He.frG_in, e⟩
  keeps := fun _ _ _ ⟨K, hK, c⟩ k => ⟨K, PySem.W.Frag.In.keeps hK k, c⟩
theorem obsCG_eq {n : Nat} {L : LT} {g : Addr → Option Obj} {s : Shared} (h : ∀ a, g a = s.heap.get? a) : obsCG n L g = (hookC n L).obs s := by
  have e : g = s.heap.get? := funext h
  rw [e] <;> rfl
def LT.gn (L : LT) (o : L.Ok) (w : World) (K : PySem.W.Frag) : Gn := ⟨K, w, nmOf L.nms, fun c => He.ga K (nmOf L.nms c), nmOf_inj o.nd o.lo⟩
def LT.ad (L : LT) (K : PySem.W.Frag) (f : Nat) : Addr := match look1 L.fns f with
  | some F => He.fAd K F.dd.at_
  | none => 0
theorem fnl {L : LT} (o : L.Ok) {w : World} {K : PySem.W.Frag} (c : SaysC L w K) {f : Nat} {F : FD} (hf : look1 L.fns f = some F) :
    ∃ fd, FnL (L.gn o w K) K F.ir (L.ad K f) fd F.ps ∧ (∀ (s : Shared) (us : List Value), us.length = F.ps.length → BindsTo s fd ⟨us, []⟩ (F.ps.zip us)) ∧ PySem.W.keepIn K (.ref (L.ad K f)) = true := by
  have cT : He.SaysT [] L.defs L.tabs w K := congrArg (fun z : AlC => z.1) c
  have mem := look1_mem hf
  have ok := o.fns _ mem
  unfold FD.ok at ok
  simp only [Bool.and_eq_true] at ok
  obtain ⟨⟨⟨⟨⟨⟨a1, a2⟩, a3⟩, a4⟩, a5⟩, a6⟩, a7⟩ := ok
  obtain ⟨i, hi, ei⟩ := List.getElem_of_mem mem
  have e : L.defs[i]? = some F.dd := by
    unfold LT.defs
    rw [List.getElem?_map, List.getElem?_eq_getElem hi, ei]; rfl
  obtain ⟨fd, q⟩ := cT.d.def_ i e
  have d0 : F.dd.dfl = [] := List.isEmpty_iff.mp a6
  have d1 : F.dd.kwd = [] := List.isEmpty_iff.mp a7
  have e1 : F.dd.dvs K = [] := by unfold He.DefD.dvs; rw [d0]; rfl
  have e2 : F.dd.kws K = [] := by unfold He.DefD.kws; rw [d1]; rfl
  have e3 : L.ad K f = He.fAd K F.dd.at_ := by unfold LT.ad; rw [hf]
  rw [e1, e2] at q
  rw [e3]
  have bd := o.bds F (List.mem_map.mpr ⟨_, mem, rfl⟩)
  exact ⟨fd, ⟨⟨F.dd.name, F.dd.qual, F.dd.params, F.dd.body, F.dd.scope, F.N, q, fnScope_ok a1, eq_of_beq a2, eq_of_beq a3, a4, a5⟩, q.bindsN bd⟩, fun s us hl => q.bindsA bd s us hl, q.kp⟩
theorem lnk {L : LT} (o : L.Ok) {w : World} {K : PySem.W.Frag} {h : Heap} {mg : Str → Option Value} {Pr : Program} {base : Heap} (X : K.In h) (g : h.Ns mainGlobals mg) (c : SaysC L w K) :
    Lnk (L.gn o w K) L.prog Pr w K mg base (L.ad K) := by
  have cT : He.SaysT [] L.defs L.tabs w K := congrArg (fun z : AlC => z.1) c
  have cK : L.ck K = true := congrArg (fun z : AlC => z.2) c
  unfold LT.ck at cK
  simp only [Bool.and_eq_true] at cK
  obtain ⟨⟨⟨⟨⟨k1, k2⟩, k3⟩, k4⟩, k5⟩, k6⟩ := cK
  have free : ∀ x ∈ L.frees, mg x = none := fun x hx => He.free_ok X g (List.all_eq_true.mp k2 x hx)
  refine {
    eK := rfl
    eW := rfl
    fn := fun f F hF => ?_
    glob := fun f hf => ?_
    oknm := nmOf_ok o.okn
    con := fun x d hx => ?_
    bi := fun b => free _ (o.free b)
    rng := free _ o.freeR.1
    isi := free _ o.freeR.2
    ty := fun t => free _ (o.freeT t)
    meth := fun c m f hm => ?_
    init := fun c f hm => ?_
    att := fun c f hm => ?_
    exc0 := fun _ z => by cases z
    exc1 := fun _ _ _ z => by cases z }
  · obtain ⟨F', hF', e⟩ := Option.map_eq_some_iff.mp hF
    subst e
    obtain ⟨fd, q, _, _⟩ := fnl o c hF'
    exact ⟨fd, F'.ps, q⟩
  · have hf : (match look1 L.fns f with
      | some F => F.dd.at_.2.isNone
      | none => false) = true := hf
    cases hF : look1 L.fns f with
    | none => rw [hF] at hf; cases hf
    | some F =>
      rw [hF] at hf
      have hn : F.dd.at_.2 = none := Option.isNone_iff_eq_none.mp hf
      obtain ⟨fd, _, _, kp⟩ := fnl o c hF
      have z := List.all_eq_true.mp k1 _ (look1_mem hF)
      simp only [hn] at z
      have e := He.glo_ok X g z
      have ea : L.ad K f = He.ga K F.dd.at_.1 := by
        unfold LT.ad
        rw [hF]
        show He.fAd K F.dd.at_ = _
        unfold He.fAd
        rw [hn]
      refine ⟨by show ((look1 L.fns f).map FD.ir).isSome = true; rw [hF]; rfl, kp, ?_⟩
      show mg (nmOf L.nms f) = _
      rw [o.names f F hF hn, e, ea]
  · have hq := look1_mem (l := L.cons) hx
    refine con_ok X g (List.all_eq_true.mp k3 _ hq) fun t ht => ?_
    have ht2 : t ∈ L.tabs := List.mem_flatMap.mpr ⟨_, hq, ht⟩
    obtain ⟨i, hi, e⟩ := List.getElem_of_mem ht2
    have e2 : L.tabs.map (fun t => He.dicW K (t.1 K)) = L.tabs.map fun t => some (He.keysIn w.params t.2) := congrArg (fun z : He.AlT => z.2) cT
    have e3 : (L.tabs.map fun t => He.dicW K (t.1 K))[i]? = (L.tabs.map fun t => some (He.keysIn w.params t.2))[i]? := by rw [e2]
    rw [List.getElem?_map, List.getElem?_map, List.getElem?_eq_getElem hi, e] at e3
    exact Option.some.inj e3
  · have hq := look2_mem (l := L.meths) hm
    obtain ⟨F, hF, ha⟩ := o.meths _ hq
    have z := List.all_eq_true.mp k4 _ hq
    rw [Bool.and_eq_true] at z
    have ea : L.ad K f = He.ma K (He.ga K (nmOf L.nms c)) (nmOf L.nms m) := by
      unfold LT.ad
      rw [show look1 L.fns f = some F from hF]
      show He.fAd K F.dd.at_ = _
      rw [ha]
      rfl
    refine ⟨by show ((look1 L.fns f).map FD.ir).isSome = true; rw [show look1 L.fns f = some F from hF]; rfl, He.cls_ok z.1, ?_⟩
    rw [ea]
    exact He.meth_ok z.2
  · have hq := look1_mem (l := L.inits) hm
    obtain ⟨F, hF, ha⟩ := o.inits _ hq
    have z := List.all_eq_true.mp k5 _ hq
    rw [Bool.and_eq_true] at z
    have ea : L.ad K f = He.ma K (He.ga K (nmOf L.nms c)) "__init__" := by
      unfold LT.ad
      rw [show look1 L.fns f = some F from hF]
      show He.fAd K F.dd.at_ = _
      rw [ha]
      rfl
    refine ⟨by show ((look1 L.fns f).map FD.ir).isSome = true; rw [show look1 L.fns f = some F from hF]; rfl, ?_, He.glo_ok X g z.2⟩
    rw [ea]
    exact He.mkr_ok z.1
  · have hm : (L.atts.any fun p => p.1 == c && p.2 == f) = true := hm
    obtain ⟨q, hq, e⟩ := List.any_eq_true.mp hm
    rw [Bool.and_eq_true] at e
    have e1 := eq_of_beq e.1
    have e2 := eq_of_beq e.2
    subst e1
    subst e2
    have z := List.all_eq_true.mp k6 _ hq
    rw [Bool.and_eq_true] at z
    exact ⟨He.cls_ok z.1, He.noat_ok z.2⟩
/-- the head's end: a law whose run is true at every script -/
theorem law_end {L : LT} (o : L.Ok) {f k n : Nat} {F : FD} {x : Str} (hF : look1 L.fns f = some F) (hat : F.dd.at_ = (("law" : Str), none)) (hps : F.ps = [x]) (run : ∀ ns : List Int, ns.length ≤ n → ∃ M', runF L.prog k f [.lst (ns.map .int)] [] = .ok (.bl true) M')
    {Pr : Program} {w : World} {mg : Str → Option Value} {fa : Addr} {h : Heap} (Y : ∃ K : PySem.W.Frag, K.In h ∧ SaysC L w K) (g : h.Ns mainGlobals mg) (hmg : mg ("law" : Str) = some (.ref fa)) :
    ∃ (K : PySem.W.Frag) (fd : FuncData) (sp : Sp), K.In h ∧ (∀ (s : Shared) (u : Value), BindsTo s fd ⟨[u], []⟩ [(x, u)]) ∧
      (∀ (H : Hp) (a : Addr) (ns : List Int), ns.length ≤ n → Only H → SqL K H a (ns.map V.int) → sp [.ref a] H (fun v _ => v = .bl true) fun _ _ _ => False) ∧
      ∀ base : Heap, K.In base → base.Ns mainGlobals mg → FnOk Pr w K mg base (L2.CX Pr w) (2 * k + 4) fa fd [x] sp := by
  obtain ⟨K, X, c⟩ := Y
  obtain ⟨fd, fl, bd, _⟩ := fnl o c hF
  have hP : L.prog.fn f = some F.ir := by show (look1 L.fns f).map FD.ir = _; rw [hF]; rfl
  have cK : L.ck K = true := congrArg (fun z : AlC => z.2) c
  unfold LT.ck at cK
  simp only [Bool.and_eq_true] at cK
  have z := List.all_eq_true.mp cK.1.1.1.1.1 _ (look1_mem hF)
  simp only [hat] at z
  have e := He.glo_ok X g (x := "law") z
  have ea : L.ad K f = fa := by
    rw [hmg] at e
    cases e
    unfold LT.ad
    rw [hF]
    show He.fAd K F.dd.at_ = _
    rw [hat]
    rfl
  refine ⟨K, fd, spF (L.gn o w K) (runF L.prog k f), X, fun s u => ?_, fun H a ns hn _ hS => ?_, fun base hb gb => ?_⟩
  · have q := bd s [u] (by rw [hps]; rfl)
    rw [hps] at q
    exact q
  · obtain ⟨M', hr⟩ := run ns hn
    refine ⟨[], [], [], [.lst (ns.map .int)], ⟨rfl, List.nodup_nil, fun _ z => (by cases z), fun _ z => (by cases z), fun l o a e _ => (by simp at e)⟩, ⟨.ref a, [], rfl, ⟨a, ns.map V.int, rfl, hS.imp (fun q => ⟨q, fun z => (by cases z)⟩) id, ?_⟩, rfl⟩, ?_⟩
    · have all : ∀ ns : List Int, DenL (L.gn o w K) [] [] H (ns.map D.int) (ns.map V.int) := fun ns => by
        induction ns with
        | nil => rfl
        | cons i r ih => exact ⟨.int i, _, rfl, rfl, ih⟩
      exact all ns
    · rw [hr]
      exact fun ext b H' _ hb => hb
  · have l0 := lnk (Pr := Pr) (base := base) o hb gb c
    have q := fn_all l0 k f F.ir fd F.ps hP fl
    rw [ea, hps] at q
    exact q
/-- the walk behind the head -/
theorem walkC {law : PySem.W.OpenLaw} {most k : Nat} {qp : Program} {loose : List Str} {XP : (Str → Option Value) → Heap → Prop} {YP : World → Heap → Prop} {dr : DefRec} {x : Str}
    (hm : law.most = some most) (hle : most ≤ sizeLine) (nodf : dr.params.defaults = []) (room : Room k callerA)
    (each : ∀ (w : World) (mg : Str → Option Value) (fa : Addr) (h : Heap), YP w h → h.Ns mainGlobals mg → mg dr.name = some (.ref fa) →
      ∃ (K : PySem.W.Frag) (fd : FuncData) (sp : Sp), K.In h ∧ (∀ (s : Shared) (u : Value), BindsTo s fd ⟨[u], []⟩ [(x, u)]) ∧
        (∀ (H : Hp) (a : Addr) (ns : List Int), ns.length ≤ most → Only H → SqL K H a (ns.map V.int) → sp [.ref a] H (fun v _ => v = .bl true) fun _ _ _ => False) ∧
        ∀ base : Heap, K.In base → base.Ns mainGlobals mg → FnOk law.prog w K mg base (L2.CX law.prog w) k fa fd [x] sp) :
    PySem.W.WalkO qp loose XP YP law.row.toRowW dr [] (fun f vs => PySem.call f vs) := by
  refine Att.attach_call hm nodf fun w sa sb mg mb fa ob pm cd doc a vs ns top yes hob hdd hcc named stands ints_ short gens => ?_
  obtain ⟨K, fd, sp, inK, binds, says, keeps⟩ := each w mg fa _ yes top.T.g named
  refine law_call inK top.T.g top.T.b top.T.builtins top.T.nolimit gens stands ints_ (Nat.le_trans short hle) room keeps binds (fun H only hS => says H a ns short only hS) fun H e s' z => ?_
  obtain ⟨_, _, _, _, _, _, _, _, _, _, _, _, z⟩ := z
  exact z
end Cy
end

section
set_option maxRecDepth 100000
/-! The bodies of the functions that many laws share, printed by prt.py, prtb.py. -/
namespace Bd
open Cy
/-- greatest_common -/
def b6 : Cy.St := (.seq (.whl 1000000 (.cmp .gt (.var 1) (.cI 0))
      (.seq (.par [0, 1] (.cons (.var 1) (.cons (.bin .mod (.var 0) (.var 1)) .nil)))
      .nop))
      (.seq (.ret (.var 0))
      .nop))
def f6 : Cy.Fn := ⟨2, 2, b6⟩
/-- ratio -/
def b7 : Cy.St := (.seq (.set (.nm 2) (.pcall 6 (.cons (.bi .abs (.cons (.var 0) .nil)) (.cons (.var 1) .nil))))
      (.seq (.ret (.tup (.cons (.bin .fdiv (.var 0) (.var 2)) (.cons (.bin .fdiv (.var 1) (.var 2)) .nil))))
      .nop))
def f7 : Cy.Fn := ⟨2, 3, b7⟩
/-- token_length -/
def b8 : Cy.St := (.seq (.set (.nm 2) (.idx (.var 0) (.var 1)))
      (.seq (.ite (.cmp .inn (.var 2) (.gl 174))
      (.seq (.ret (.cI 1))
      .nop)
      .nop)
      (.seq (.set (.nm 3) (.ite (.cmp .inn (.var 2) (.gl 172)) (.gl 172) (.gl 173)))
      (.seq (.set (.nm 4) (.cI 0))
      (.seq (.whl 1000000 (.and (.cmp .lt (.bin .add (.var 1) (.var 4)) (.bi .len (.cons (.var 0) .nil))) (.cmp .inn (.idx (.var 0) (.bin .add (.var 1) (.var 4))) (.var 3)))
      (.seq (.aug .add 4 (.cI 1))
      .nop))
      (.seq (.ite (.cmp .gt (.var 4) (.ite (.cmp .inn (.var 2) (.gl 172)) (.gl 176) (.gl 177)))
      (.seq (.ret (.cI 0))
      .nop)
      .nop)
      (.seq (.ret (.ite (.and (.cmp .gt (.var 4) (.cI 1)) (.cmp .eq (.var 2) (.cS [48]))) (.cI 0) (.var 4)))
      .nop)))))))
def f8 : Cy.Fn := ⟨2, 5, b8⟩
/-- tokenize -/
def b9 : Cy.St := (.seq (.par [1, 2] (.cons (.lst true .nil) (.cons (.cI 0) .nil)))
      (.seq (.whl 1000000 (.cmp .lt (.var 2) (.bi .len (.cons (.var 0) .nil)))
      (.seq (.ite (.cmp .eq (.idx (.var 0) (.var 2)) (.cS [32]))
      (.seq (.aug .add 2 (.cI 1))
      .nop)
      (.seq (.set (.nm 3) (.pcall 8 (.cons (.var 0) (.cons (.var 2) .nil))))
      (.seq (.ite (.cmp .eq (.var 3) (.cI 0))
      (.seq (.rse 159 (.cons (.var 2) .nil))
      .nop)
      .nop)
      (.seq (.exp (.bm .append (.var 1) (.cons (.tup (.cons (.sl false (.var 0) (.cons (.var 2) .nil) (.cons (.bin .add (.var 2) (.var 3)) .nil)) (.cons (.var 2) .nil))) .nil)))
      (.seq (.aug .add 2 (.var 3))
      .nop)))))
      .nop))
      (.seq (.ret (.bin .add (.var 1) (.lst false (.cons (.tup (.cons (.cS []) (.cons (.bi .len (.cons (.var 0) .nil)) .nil))) .nil))))
      .nop)))
def f9 : Cy.Fn := ⟨1, 4, b9⟩
/-- Parser.__init__ -/
def b10 : Cy.St := (.seq (.fld 196 (.var 0) (.pcall 9 (.cons (.var 1) .nil)))
      (.seq (.fld 197 (.var 0) (.cI 0))
      (.seq (.fld 198 (.var 0) (.cI 0))
      (.seq (.fld 199 (.var 0) (.lst true .nil))
      .nop))))
def f10 : Cy.Fn := ⟨2, 2, b10⟩
/-- Parser.peek -/
def b11 : Cy.St := (.seq (.ret (.idx (.idx (.fld 196 (.var 0)) (.fld 197 (.var 0))) (.cI 0)))
      .nop)
def f11 : Cy.Fn := ⟨1, 1, b11⟩
/-- Parser.fail -/
def b12 : Cy.St := (.seq (.rse 159 (.cons (.idx (.idx (.fld 196 (.var 0)) (.fld 197 (.var 0))) (.cI 1)) .nil))
      .nop)
def f12 : Cy.Fn := ⟨1, 1, b12⟩
/-- Parser.expect -/
def b13 : Cy.St := (.seq (.ite (.cmp .ne (.meth 183 184 (.var 0) .nil) (.var 1))
      (.seq (.exp (.meth 183 185 (.var 0) .nil))
      .nop)
      .nop)
      (.seq (.fldA .add 197 (.var 0) (.cI 1))
      .nop))
def f13 : Cy.Fn := ⟨2, 2, b13⟩
/-- Parser.take_number -/
def b14 : Cy.St := (.seq (.ite (.or (.cmp .eq (.meth 183 184 (.var 0) .nil) (.cS [])) (.cmp .nin (.idx (.meth 183 184 (.var 0) .nil) (.cI 0)) (.gl 173)))
      (.seq (.exp (.meth 183 185 (.var 0) .nil))
      .nop)
      .nop)
      (.seq (.fldA .add 197 (.var 0) (.cI 1))
      (.seq (.ret (.tup (.cons (.bi .int (.cons (.idx (.idx (.fld 196 (.var 0)) (.bin .sub (.fld 197 (.var 0)) (.cI 1))) (.cI 0)) .nil)) (.cons (.idx (.idx (.fld 196 (.var 0)) (.bin .sub (.fld 197 (.var 0)) (.cI 1))) (.cI 1)) .nil))))
      .nop)))
def f14 : Cy.Fn := ⟨1, 1, b14⟩
/-- Parser.take_count -/
def b15 : Cy.St := (.seq (.set (.tp [1, 2]) (.meth 183 187 (.var 0) .nil))
      (.seq (.ite (.not (.ch2 .le .le (.cI 1) (.var 1) (.gl 178)))
      (.seq (.exp (.bm .append (.fld 199 (.var 0)) (.cons (.tup (.cons (.var 2) (.cons (.cI 2) (.cons (.cS [110, 117, 109, 98, 101, 114]) .nil)))) .nil)))
      .nop)
      .nop)
      (.seq (.ret (.var 1))
      .nop)))
def f15 : Cy.Fn := ⟨1, 3, b15⟩
/-- Parser.parse_pattern -/
def b16 : Cy.St := (.seq (.set (.nm 2) (.meth 183 190 (.var 0) (.cons (.var 1) .nil)))
      (.seq (.whl 1000000 (.or (.cmp .eq (.meth 183 184 (.var 0) .nil) (.cS [94])) (.cmp .eq (.meth 183 184 (.var 0) .nil) (.cS [58])))
      (.seq (.set (.nm 3) (.ite (.cmp .eq (.meth 183 184 (.var 0) .nil) (.cS [94])) (.cS [102, 97, 115, 116]) (.cS [115, 108, 111, 119])))
      (.seq (.fldA .add 197 (.var 0) (.cI 1))
      (.seq (.set (.nm 2) (.tup (.cons (.var 3) (.cons (.meth 183 188 (.var 0) .nil) (.cons (.tup (.cons (.var 2) .nil)) .nil)))))
      .nop))))
      (.seq (.ret (.var 2))
      .nop)))
def f16 : Cy.Fn := ⟨2, 4, b16⟩
/-- Parser.parse_unit -/
def b17 : Cy.St := (.seq (.set (.tp [2, 3]) (.idx (.fld 196 (.var 0)) (.fld 197 (.var 0))))
      (.seq (.ite (.or (.cmp .eq (.var 2) (.cS [])) (.or (.cmp .inn (.idx (.var 2) (.cI 0)) (.gl 173)) (.cmp .inn (.var 2) (.tup (.cons (.cS [41]) (.cons (.cS [93]) (.cons (.cS [125]) (.cons (.cS [43]) (.cons (.cS [94]) (.cons (.cS [58]) (.cons (.cS [47]) (.cons (.cS [44]) .nil))))))))))))
      (.seq (.exp (.meth 183 185 (.var 0) .nil))
      .nop)
      .nop)
      (.seq (.fldA .add 197 (.var 0) (.cI 1))
      (.seq (.fldA .add 198 (.var 0) (.cI 1))
      (.seq (.ite (.cmp .eq (.fld 198 (.var 0)) (.bin .add (.gl 181) (.cI 1)))
      (.seq (.exp (.bm .append (.fld 199 (.var 0)) (.cons (.tup (.cons (.var 3) (.cons (.cI 0) (.cons (.cS [115, 105, 122, 101]) .nil)))) .nil)))
      .nop)
      .nop)
      (.seq (.ite (.cmp .gt (.var 1) (.gl 180))
      (.seq (.exp (.bm .append (.fld 199 (.var 0)) (.cons (.tup (.cons (.var 3) (.cons (.cI 1) (.cons (.cS [100, 101, 112, 116, 104]) .nil)))) .nil)))
      .nop)
      .nop)
      (.seq (.ite (.cmp .eq (.var 2) (.cS [95]))
      (.seq (.ret (.tup (.cons (.cS [114, 101, 115, 116]) (.cons .cN (.cons (.tup .nil) .nil)))))
      .nop)
      .nop)
      (.seq (.ite (.cmp .inn (.var 2) (.gl 175))
      (.seq (.ret (.meth 183 192 (.var 0) (.cons (.var 2) (.cons (.var 1) .nil))))
      .nop)
      .nop)
      (.seq (.ite (.cmp .inn (.idx (.var 2) (.cI 0)) (.gl 172))
      (.seq (.ret (.tup (.cons (.cS [119, 111, 114, 100]) (.cons (.var 2) (.cons (.tup .nil) .nil)))))
      .nop)
      .nop)
      (.seq (.ret (.meth 183 191 (.var 0) (.cons (.var 2) (.cons (.var 1) .nil))))
      .nop))))))))))
def f17 : Cy.Fn := ⟨2, 4, b17⟩
/-- Parser.parse_group -/
def b18 : Cy.St := (.seq (.set (.nm 3) (.dsp [[40], [91], [123]] (.cons (.tup (.cons (.cS [114, 111, 119]) (.cons (.cS [41]) .nil))) (.cons (.tup (.cons (.cS [108, 97, 121, 101, 114, 115]) (.cons (.cS [93]) .nil))) (.cons (.tup (.cons (.cS [116, 117, 114, 110, 115]) (.cons (.cS [125]) .nil))) .nil)))))
      (.seq (.set (.tp [5, 6]) (.idx (.var 3) (.var 1)))
      (.seq (.set (.nm 4) (.lst true (.cons (.meth 183 189 (.var 0) (.cons (.bin .add (.var 2) (.cI 1)) .nil)) .nil)))
      (.seq (.whl 1000000 (.cmp .ne (.meth 183 184 (.var 0) .nil) (.var 6))
      (.seq (.ite (.cmp .eq (.var 5) (.cS [108, 97, 121, 101, 114, 115]))
      (.seq (.exp (.meth 183 186 (.var 0) (.cons (.cS [43]) .nil)))
      .nop)
      .nop)
      (.seq (.exp (.bm .append (.var 4) (.cons (.meth 183 189 (.var 0) (.cons (.bin .add (.var 2) (.cI 1)) .nil)) .nil)))
      .nop)))
      (.seq (.fldA .add 197 (.var 0) (.cI 1))
      (.seq (.ret (.tup (.cons (.var 5) (.cons .cN (.cons (.bi .tuple (.cons (.var 4) .nil)) .nil)))))
      .nop))))))
def f18 : Cy.Fn := ⟨3, 7, b18⟩
/-- Parser.parse_call -/
def b19 : Cy.St := (.seq (.exp (.meth 183 186 (.var 0) (.cons (.cS [40]) .nil)))
      (.seq (.par [3, 4] (.cons .cN (.cons (.lst true .nil) .nil)))
      (.seq (.ite (.cmp .eq (.var 1) (.cS [108, 97, 116, 101]))
      (.seq (.set (.tp [6, 7]) (.meth 183 187 (.var 0) .nil))
      (.seq (.exp (.meth 183 186 (.var 0) (.cons (.cS [47]) .nil)))
      (.seq (.set (.nm 5) (.idx (.meth 183 187 (.var 0) .nil) (.cI 0)))
      (.seq (.ite (.not (.ch3 .le .lt .le (.cI 0) (.var 6) (.var 5) (.gl 179)))
      (.seq (.exp (.bm .append (.fld 199 (.var 0)) (.cons (.tup (.cons (.var 7) (.cons (.cI 2) (.cons (.cS [110, 117, 109, 98, 101, 114]) .nil)))) .nil)))
      .nop)
      .nop)
      (.seq (.set (.nm 3) (.tup (.cons (.var 6) (.cons (.var 5) .nil))))
      (.seq (.exp (.meth 183 186 (.var 0) (.cons (.cS [44]) .nil)))
      .nop))))))
      .nop)
      (.seq (.ite (.cmp .eq (.var 1) (.cS [101, 97, 99, 104]))
      (.seq (.set (.nm 3) (.meth 183 188 (.var 0) .nil))
      (.seq (.exp (.meth 183 186 (.var 0) (.cons (.cS [44]) .nil)))
      (.seq (.exp (.bm .append (.var 4) (.cons (.meth 183 189 (.var 0) (.cons (.bin .add (.var 2) (.cI 1)) .nil)) .nil)))
      (.seq (.exp (.meth 183 186 (.var 0) (.cons (.cS [44]) .nil)))
      .nop))))
      .nop)
      (.seq (.exp (.bm .append (.var 4) (.cons (.meth 183 189 (.var 0) (.cons (.bin .add (.var 2) (.cI 1)) .nil)) .nil)))
      (.seq (.exp (.meth 183 186 (.var 0) (.cons (.cS [41]) .nil)))
      (.seq (.ret (.tup (.cons (.var 1) (.cons (.var 3) (.cons (.bi .tuple (.cons (.var 4) .nil)) .nil)))))
      .nop)))))))
def f19 : Cy.Fn := ⟨3, 8, b19⟩
/-- bound_events -/
def b20 : Cy.St := (.seq (.set (.tp [2, 3, 4]) (.var 0))
      (.seq (.set (.nm 1) (.comp false (.nm 5) (.src (.var 4)) (.cB true) (.pcall 20 (.cons (.var 5) .nil))))
      (.seq (.ite (.cmp .inn (.var 2) (.tup (.cons (.cS [119, 111, 114, 100]) (.cons (.cS [114, 101, 115, 116]) .nil))))
      (.seq (.ret (.cI 1))
      .nop)
      .nop)
      (.seq (.ite (.cmp .inn (.var 2) (.tup (.cons (.cS [114, 111, 119]) (.cons (.cS [108, 97, 121, 101, 114, 115]) .nil))))
      (.seq (.ret (.bi .sum (.cons (.var 1) .nil)))
      .nop)
      .nop)
      (.seq (.ite (.cmp .eq (.var 2) (.cS [102, 97, 115, 116]))
      (.seq (.ret (.bin .mul (.var 3) (.idx (.var 1) (.cI 0))))
      .nop)
      .nop)
      (.seq (.ret (.bi .max (.cons (.var 1) .nil)))
      .nop))))))
def f20 : Cy.Fn := ⟨1, 6, b20⟩
/-- reduce_shifts -/
def b21 : Cy.St := (.seq (.set (.tp [2, 3, 4]) (.var 0))
      (.seq (.set (.nm 1) (.bi .tuple (.cons (.comp false (.nm 5) (.src (.var 4)) (.cB true) (.pcall 21 (.cons (.var 5) .nil))) .nil)))
      (.seq (.ret (.tup (.cons (.var 2) (.cons (.ite (.cmp .eq (.var 2) (.cS [108, 97, 116, 101])) (.pcall 7 (.cons (.idx (.var 3) (.cI 0)) (.cons (.idx (.var 3) (.cI 1)) .nil))) (.var 3)) (.cons (.var 1) .nil)))))
      .nop)))
def f21 : Cy.Fn := ⟨1, 6, b21⟩
/-- load -/
def b22 : Cy.St := (.seq (.set (.nm 1) (.mk 183 (.cons (.var 0) .nil)))
      (.seq (.set (.nm 2) (.meth 183 189 (.var 1) (.cons (.cI 1) .nil)))
      (.seq (.ite (.cmp .ne (.meth 183 184 (.var 1) .nil) (.cS []))
      (.seq (.exp (.meth 183 185 (.var 1) .nil))
      .nop)
      .nop)
      (.seq (.ite (.cmp .ne (.fld 199 (.var 1)) (.lst false .nil))
      (.seq (.set (.tp [3, 4, 5]) (.bi .min (.cons (.fld 199 (.var 1)) .nil)))
      (.seq (.rse 160 (.cons (.var 5) (.cons (.var 3) .nil)))
      .nop))
      .nop)
      (.seq (.ite (.cmp .gt (.pcall 20 (.cons (.var 2) .nil)) (.gl 182))
      (.seq (.rse 160 (.cons (.cS [101, 118, 101, 110, 116, 115]) (.cons (.cI 0) .nil)))
      .nop)
      .nop)
      (.seq (.ret (.pcall 21 (.cons (.var 2) .nil)))
      .nop))))))
def f22 : Cy.Fn := ⟨1, 6, b22⟩
/-- format_tree -/
def b23 : Cy.St := (.seq (.set (.tp [2, 3, 4]) (.var 0))
      (.seq (.set (.nm 1) (.comp false (.nm 6) (.src (.var 4)) (.cB true) (.pcall 23 (.cons (.var 6) .nil))))
      (.seq (.ite (.cmp .eq (.var 2) (.cS [119, 111, 114, 100]))
      (.seq (.ret (.var 3))
      .nop)
      .nop)
      (.seq (.ite (.cmp .eq (.var 2) (.cS [114, 101, 115, 116]))
      (.seq (.ret (.cS [95]))
      .nop)
      .nop)
      (.seq (.ite (.cmp .inn (.var 2) (.gl 193))
      (.seq (.set (.nm 5) (.ite (.cmp .eq (.var 2) (.cS [108, 97, 121, 101, 114, 115])) (.cS [32, 43, 32]) (.cS [32])))
      (.seq (.ret (.bin .add (.bin .add (.idx (.idx (.gl 193) (.var 2)) (.cI 0)) (.bm .join (.var 5) (.cons (.var 1) .nil))) (.idx (.idx (.gl 193) (.var 2)) (.cI 1))))
      .nop))
      .nop)
      (.seq (.ite (.cmp .inn (.var 2) (.tup (.cons (.cS [102, 97, 115, 116]) (.cons (.cS [115, 108, 111, 119]) .nil))))
      (.seq (.ret (.bin .add (.bin .add (.idx (.var 1) (.cI 0)) (.ite (.cmp .eq (.var 2) (.cS [102, 97, 115, 116])) (.cS [94]) (.cS [58]))) (.bi .str (.cons (.var 3) .nil))))
      .nop)
      .nop)
      (.seq (.ite (.cmp .eq (.var 2) (.cS [108, 97, 116, 101]))
      (.seq (.ret (.bin .add (.bin .add (.bin .add (.bin .add (.bin .add (.bin .add (.cS [108, 97, 116, 101, 40]) (.bi .str (.cons (.idx (.var 3) (.cI 0)) .nil))) (.cS [47])) (.bi .str (.cons (.idx (.var 3) (.cI 1)) .nil))) (.cS [44, 32])) (.idx (.var 1) (.cI 0))) (.cS [41])))
      .nop)
      .nop)
      (.seq (.ite (.cmp .eq (.var 2) (.cS [101, 97, 99, 104]))
      (.seq (.ret (.bin .add (.bin .add (.bin .add (.bin .add (.bin .add (.bin .add (.cS [101, 97, 99, 104, 40]) (.bi .str (.cons (.var 3) .nil))) (.cS [44, 32])) (.idx (.var 1) (.cI 0))) (.cS [44, 32])) (.idx (.var 1) (.cI 1))) (.cS [41])))
      .nop)
      .nop)
      (.seq (.ret (.bin .add (.bin .add (.cS [109, 105, 114, 114, 111, 114, 40]) (.idx (.var 1) (.cI 0))) (.cS [41])))
      .nop)))))))))
def f23 : Cy.Fn := ⟨1, 7, b23⟩
/-- format_pattern -/
def b24 : Cy.St := (.seq (.ret (.pcall 23 (.cons (.pcall 22 (.cons (.var 0) .nil)) .nil)))
      .nop)
def f24 : Cy.Fn := ⟨1, 1, b24⟩
/-- count_units -/
def b45 : Cy.St := (.seq (.set (.nm 1) (.ite (.cmp .inn (.idx (.var 0) (.cI 0)) (.tup (.cons (.cS [102, 97, 115, 116]) (.cons (.cS [115, 108, 111, 119]) .nil)))) (.cI 0) (.cI 1)))
      (.seq (.ret (.bin .add (.var 1) (.bi .sum (.cons (.comp false (.nm 2) (.src (.idx (.var 0) (.cI 2))) (.cB true) (.pcall 45 (.cons (.var 2) .nil))) .nil))))
      .nop))
def f45 : Cy.Fn := ⟨1, 3, b45⟩
/-- measure -/
def b46 : Cy.St := (.seq (.ret (.pcall 45 (.cons (.pcall 22 (.cons (.var 0) .nil)) .nil)))
      .nop)
def f46 : Cy.Fn := ⟨1, 1, b46⟩
/-- _law_random -/
def b25 : Cy.St := (.seq (.set (.nm 2) (.var 1))
      (.seq (.for_ (.nm 3) (.src (.var 0))
      (.seq (.set (.nm 2) (.bin .mod (.bin .add (.bin .mul (.var 2) (.cI 31)) (.bi .abs (.cons (.var 3) .nil))) (.cI 2147483647)))
      .nop))
      (.seq (.ret (.bin .addL (.lst false (.cons (.var 2) (.cons (.cI 0) .nil))) (.comp false (.nm 3) (.src (.var 0)) (.cmp .ge (.var 3) (.bin .pow (.cI 10) (.cI 18))) (.var 3))))
      .nop)))
def f25 : Cy.Fn := ⟨2, 4, b25⟩
/-- _law_below -/
def b28 : Cy.St := (.seq (.ite (.and (.cmp .eq (.idx (.var 0) (.cI 1)) (.cI 0)) (.cmp .gt (.bi .len (.cons (.var 0) .nil)) (.cI 2)))
      (.seq (.put (.var 0) (.cI 1) (.bm .pop (.var 0) (.cons (.cI 2) .nil)))
      .nop)
      .nop)
      (.seq (.ite (.cmp .gt (.idx (.var 0) (.cI 1)) (.cI 0))
      (.seq (.set (.nm 2) (.bin .mod (.idx (.var 0) (.cI 1)) (.var 1)))
      (.seq (.put (.var 0) (.cI 1) (.bin .fdiv (.idx (.var 0) (.cI 1)) (.var 1)))
      (.seq (.ret (.var 2))
      .nop)))
      .nop)
      (.seq (.put (.var 0) (.cI 0) (.bin .mod (.bin .add (.bin .mul (.idx (.var 0) (.cI 0)) (.cI 48271)) (.cI 11)) (.cI 2147483647)))
      (.seq (.ret (.bin .mod (.bin .fdiv (.idx (.var 0) (.cI 0)) (.cI 64)) (.var 1)))
      .nop))))
def f28 : Cy.Fn := ⟨2, 3, b28⟩
/-- _law_common -/
def b29 : Cy.St := (.seq (.whl 1000000 (.cmp .gt (.var 1) (.cI 0))
      (.seq (.par [0, 1] (.cons (.var 1) (.cons (.bin .mod (.var 0) (.var 1)) .nil)))
      .nop))
      (.seq (.ret (.var 0))
      .nop))
def f29 : Cy.Fn := ⟨2, 2, b29⟩
/-- _law_ratio -/
def b30 : Cy.St := (.seq (.set (.nm 2) (.pcall 29 (.cons (.bi .abs (.cons (.var 0) .nil)) (.cons (.var 1) .nil))))
      (.seq (.ret (.tup (.cons (.bin .fdiv (.var 0) (.var 2)) (.cons (.bin .fdiv (.var 1) (.var 2)) .nil))))
      .nop))
def f30 : Cy.Fn := ⟨2, 3, b30⟩
/-- _law_tree -/
def b31 : Cy.St := (.seq (.set (.nm 2) (.ite (.cmp .gt (.var 1) (.cI 0)) (.call 28 (.cons (.var 0) (.cons (.cI 12) .nil))) (.call 28 (.cons (.var 0) (.cons (.cI 3) .nil)))))
      (.seq (.ite (.cmp .lt (.var 2) (.cI 2))
      (.seq (.ret (.tup (.cons (.cS [119, 111, 114, 100]) (.cons (.idx (.lst false (.cons (.cS [97]) (.cons (.cS [98]) (.cons (.cS [99]) (.cons (.cS [108, 111, 110, 103, 119, 111, 114, 100]) .nil))))) (.call 28 (.cons (.var 0) (.cons (.cI 4) .nil)))) (.cons (.lst false .nil) .nil)))))
      .nop)
      .nop)
      (.seq (.ite (.cmp .eq (.var 2) (.cI 2))
      (.seq (.ret (.tup (.cons (.cS [114, 101, 115, 116]) (.cons (.cI 0) (.cons (.lst false .nil) .nil)))))
      .nop)
      .nop)
      (.seq (.ite (.cmp .lt (.var 2) (.cI 8))
      (.seq (.set (.nm 3) (.idx (.lst false (.cons (.cS [114, 111, 119]) (.cons (.cS [114, 111, 119]) (.cons (.cS [108, 97, 121, 101, 114, 115]) (.cons (.cS [116, 117, 114, 110, 115]) (.cons (.cS [116, 117, 114, 110, 115]) .nil)))))) (.bin .sub (.var 2) (.cI 3))))
      (.seq (.set (.nm 4) (.bin .add (.cI 1) (.call 28 (.cons (.var 0) (.cons (.ite (.cmp .eq (.var 3) (.cS [116, 117, 114, 110, 115])) (.cI 5) (.cI 3)) .nil)))))
      (.seq (.ret (.tup (.cons (.var 3) (.cons (.cI 0) (.cons (.comp false (.nm 7) (.rng1 (.var 4)) (.cB true) (.call 31 (.cons (.var 0) (.cons (.bin .sub (.var 1) (.cI 1)) .nil)))) .nil)))))
      .nop)))
      .nop)
      (.seq (.ite (.cmp .eq (.var 2) (.cI 8))
      (.seq (.set (.nm 5) (.bin .add (.cI 1) (.call 28 (.cons (.var 0) (.cons (.idx (.lst false (.cons (.cI 3) (.cons (.cI 6) .nil))) (.call 28 (.cons (.var 0) (.cons (.cI 2) .nil)))) .nil)))))
      (.seq (.ret (.tup (.cons (.idx (.lst false (.cons (.cS [102, 97, 115, 116]) (.cons (.cS [115, 108, 111, 119]) .nil))) (.call 28 (.cons (.var 0) (.cons (.cI 2) .nil)))) (.cons (.var 5) (.cons (.lst false (.cons (.call 31 (.cons (.var 0) (.cons (.bin .sub (.var 1) (.cI 1)) .nil))) .nil)) .nil)))))
      .nop))
      .nop)
      (.seq (.ite (.cmp .eq (.var 2) (.cI 9))
      (.seq (.set (.nm 6) (.idx (.lst false (.cons (.cI 1) (.cons (.cI 2) (.cons (.cI 3) (.cons (.cI 4) (.cons (.cI 8) (.cons (.cI 60) .nil))))))) (.call 28 (.cons (.var 0) (.cons (.cI 6) .nil)))))
      (.seq (.ret (.tup (.cons (.cS [115, 104, 105, 102, 116]) (.cons (.pcall 30 (.cons (.call 28 (.cons (.var 0) (.cons (.var 6) .nil))) (.cons (.var 6) .nil))) (.cons (.lst false (.cons (.call 31 (.cons (.var 0) (.cons (.bin .sub (.var 1) (.cI 1)) .nil))) .nil)) .nil)))))
      .nop))
      .nop)
      (.seq (.ite (.cmp .eq (.var 2) (.cI 10))
      (.seq (.ret (.tup (.cons (.cS [114, 101, 118]) (.cons (.cI 0) (.cons (.lst false (.cons (.call 31 (.cons (.var 0) (.cons (.bin .sub (.var 1) (.cI 1)) .nil))) .nil)) .nil)))))
      .nop)
      .nop)
      (.seq (.ret (.tup (.cons (.cS [101, 118, 101, 114, 121]) (.cons (.bin .add (.cI 1) (.call 28 (.cons (.var 0) (.cons (.cI 3) .nil)))) (.cons (.lst false (.cons (.call 31 (.cons (.var 0) (.cons (.bin .sub (.var 1) (.cI 1)) .nil))) (.cons (.call 31 (.cons (.var 0) (.cons (.bin .sub (.var 1) (.cI 1)) .nil))) .nil))) .nil)))))
      .nop))))))))
def f31 : Cy.Fn := ⟨2, 8, b31⟩
/-- _law_weight -/
def b32 : Cy.St := (.seq (.set (.tp [2, 3, 4]) (.var 0))
      (.seq (.set (.nm 1) (.comp false (.nm 5) (.src (.var 4)) (.cB true) (.pcall 32 (.cons (.var 5) .nil))))
      (.seq (.ite (.cmp .inn (.var 2) (.lst false (.cons (.cS [119, 111, 114, 100]) (.cons (.cS [114, 101, 115, 116]) .nil))))
      (.seq (.ret (.cI 1))
      .nop)
      .nop)
      (.seq (.ite (.cmp .inn (.var 2) (.lst false (.cons (.cS [114, 111, 119]) (.cons (.cS [108, 97, 121, 101, 114, 115]) .nil))))
      (.seq (.ret (.bi .sum (.cons (.var 1) .nil)))
      .nop)
      .nop)
      (.seq (.ret (.ite (.cmp .eq (.var 2) (.cS [102, 97, 115, 116])) (.bin .mul (.idx (.var 1) (.cI 0)) (.var 3)) (.bi .max (.cons (.var 1) .nil))))
      .nop)))))
def f32 : Cy.Fn := ⟨1, 6, b32⟩
/-- _law_units -/
def b33 : Cy.St := (.seq (.ret (.bin .add (.bi .int (.cons (.cmp .nin (.idx (.var 0) (.cI 0)) (.lst false (.cons (.cS [102, 97, 115, 116]) (.cons (.cS [115, 108, 111, 119]) .nil)))) .nil)) (.bi .sum (.cons (.comp false (.nm 1) (.src (.idx (.var 0) (.cI 2))) (.cB true) (.pcall 33 (.cons (.var 1) .nil))) .nil))))
      .nop)
def f33 : Cy.Fn := ⟨1, 2, b33⟩
/-- _law_bound -/
def b34 : Cy.St := (.seq (.set (.tp [3, 4, 5]) (.var 0))
      (.seq (.set (.nm 1) (.cI 1))
      (.seq (.for_ (.nm 2) (.src (.var 5))
      (.seq (.set (.nm 6) (.pcall 34 (.cons (.var 2) .nil)))
      (.seq (.set (.nm 1) (.bin .fdiv (.bin .mul (.var 1) (.var 6)) (.pcall 29 (.cons (.var 1) (.cons (.var 6) .nil)))))
      .nop)))
      (.seq (.ite (.cmp .eq (.var 3) (.cS [116, 117, 114, 110, 115]))
      (.seq (.ret (.bin .mul (.var 1) (.bi .len (.cons (.var 5) .nil))))
      .nop)
      .nop)
      (.seq (.ite (.cmp .eq (.var 3) (.cS [115, 108, 111, 119]))
      (.seq (.ret (.bin .mul (.var 1) (.var 4)))
      .nop)
      .nop)
      (.seq (.ite (.cmp .eq (.var 3) (.cS [102, 97, 115, 116]))
      (.seq (.ret (.bin .fdiv (.var 1) (.pcall 29 (.cons (.var 1) (.cons (.var 4) .nil)))))
      .nop)
      .nop)
      (.seq (.ret (.ite (.cmp .eq (.var 3) (.cS [101, 118, 101, 114, 121])) (.bin .fdiv (.bin .mul (.var 1) (.var 4)) (.pcall 29 (.cons (.var 1) (.cons (.var 4) .nil)))) (.var 1)))
      .nop)))))))
def f34 : Cy.Fn := ⟨1, 7, b34⟩
/-- _law_pattern -/
def b35 : Cy.St := (.seq (.for_ (.nm 1) (.rng1 (.cI 6))
      (.seq (.set (.nm 2) (.call 31 (.cons (.var 0) (.cons (.bin .add (.cI 1) (.call 28 (.cons (.var 0) (.cons (.cI 3) .nil)))) .nil))))
      (.seq (.ite (.and (.cmp .le (.pcall 32 (.cons (.var 2) .nil)) (.cI 60)) (.and (.cmp .le (.pcall 33 (.cons (.var 2) .nil)) (.cI 25)) (.cmp .le (.pcall 34 (.cons (.var 2) .nil)) (.cI 40))))
      (.seq (.ret (.var 2))
      .nop)
      .nop)
      .nop)))
      (.seq (.ret (.tup (.cons (.cS [116, 117, 114, 110, 115]) (.cons (.cI 0) (.cons (.lst false (.cons (.tup (.cons (.cS [119, 111, 114, 100]) (.cons (.cS [97]) (.cons (.lst false .nil) .nil)))) (.cons (.tup (.cons (.cS [114, 101, 115, 116]) (.cons (.cI 0) (.cons (.lst false .nil) .nil)))) .nil))) .nil)))))
      .nop))
def f35 : Cy.Fn := ⟨1, 3, b35⟩
/-- _law_text -/
def b27 : Cy.St := (.seq (.set (.tp [2, 3, 4]) (.var 0))
      (.seq (.set (.nm 1) (.comp false (.nm 5) (.src (.var 4)) (.cB true) (.pcall 27 (.cons (.var 5) .nil))))
      (.seq (.ite (.cmp .eq (.var 2) (.cS [119, 111, 114, 100]))
      (.seq (.ret (.var 3))
      .nop)
      .nop)
      (.seq (.ite (.cmp .eq (.var 2) (.cS [114, 101, 115, 116]))
      (.seq (.ret (.cS [95]))
      .nop)
      .nop)
      (.seq (.ite (.cmp .eq (.var 2) (.cS [108, 97, 121, 101, 114, 115]))
      (.seq (.ret (.bin .add (.bin .add (.cS [91]) (.bm .join (.cS [32, 43, 32]) (.cons (.var 1) .nil))) (.cS [93])))
      .nop)
      .nop)
      (.seq (.ite (.cmp .inn (.var 2) (.lst false (.cons (.cS [114, 111, 119]) (.cons (.cS [116, 117, 114, 110, 115]) .nil))))
      (.seq (.ret (.bin .add (.bin .add (.idx (.cS [40, 123]) (.bi .int (.cons (.cmp .eq (.var 2) (.cS [116, 117, 114, 110, 115])) .nil))) (.bm .join (.cS [32]) (.cons (.var 1) .nil))) (.idx (.cS [41, 125]) (.bi .int (.cons (.cmp .eq (.var 2) (.cS [116, 117, 114, 110, 115])) .nil)))))
      .nop)
      .nop)
      (.seq (.ite (.cmp .inn (.var 2) (.lst false (.cons (.cS [102, 97, 115, 116]) (.cons (.cS [115, 108, 111, 119]) .nil))))
      (.seq (.ret (.bin .add (.bin .add (.idx (.var 1) (.cI 0)) (.idx (.cS [94, 58]) (.bi .int (.cons (.cmp .eq (.var 2) (.cS [115, 108, 111, 119])) .nil)))) (.bi .str (.cons (.var 3) .nil))))
      .nop)
      .nop)
      (.seq (.ite (.cmp .eq (.var 2) (.cS [115, 104, 105, 102, 116]))
      (.seq (.ret (.bin .add (.bin .add (.bin .add (.bin .add (.bin .add (.bin .add (.cS [108, 97, 116, 101, 40]) (.bi .str (.cons (.idx (.var 3) (.cI 0)) .nil))) (.cS [47])) (.bi .str (.cons (.idx (.var 3) (.cI 1)) .nil))) (.cS [44, 32])) (.idx (.var 1) (.cI 0))) (.cS [41])))
      .nop)
      .nop)
      (.seq (.ret (.ite (.cmp .eq (.var 2) (.cS [114, 101, 118])) (.bin .add (.bin .add (.cS [109, 105, 114, 114, 111, 114, 40]) (.idx (.var 1) (.cI 0))) (.cS [41])) (.bin .add (.bin .add (.bin .add (.bin .add (.cS [101, 97, 99, 104, 40]) (.bi .str (.cons (.var 3) .nil))) (.cS [44, 32])) (.bm .join (.cS [44, 32]) (.cons (.var 1) .nil))) (.cS [41]))))
      .nop)))))))))
def f27 : Cy.Fn := ⟨1, 6, b27⟩
/-- _law_equal -/
def b47 : Cy.St := (.seq (.ite (.cmp .is (.var 1) .cN)
      (.seq (.ret (.cmp .is (.var 0) .cN))
      .nop)
      .nop)
      (.seq (.ite (.isa .bool (.var 1))
      (.seq (.ret (.and (.isa .bool (.var 0)) (.cmp .eq (.var 0) (.var 1))))
      .nop)
      .nop)
      (.seq (.ite (.isa .int (.var 1))
      (.seq (.ret (.and (.isa .int (.var 0)) (.and (.not (.isa .bool (.var 0))) (.cmp .eq (.var 0) (.var 1)))))
      .nop)
      .nop)
      (.seq (.ite (.isa .str (.var 1))
      (.seq (.ret (.and (.isa .str (.var 0)) (.cmp .eq (.var 0) (.var 1))))
      .nop)
      .nop)
      (.seq (.ite (.cmp .ne (.isa .tuple (.var 1)) (.isa .tuple (.var 0)))
      (.seq (.ret (.cB false))
      .nop)
      .nop)
      (.seq (.ite (.cmp .ne (.isa .list (.var 1)) (.isa .list (.var 0)))
      (.seq (.ret (.cB false))
      .nop)
      .nop)
      (.seq (.ite (.cmp .ne (.bi .len (.cons (.var 0) .nil)) (.bi .len (.cons (.var 1) .nil)))
      (.seq (.ret (.cB false))
      .nop)
      .nop)
      (.seq (.ret (.bi .all (.cons (.comp false (.nm 2) (.rng1 (.bi .len (.cons (.var 1) .nil))) (.cB true) (.pcall 47 (.cons (.idx (.var 0) (.var 2)) (.cons (.idx (.var 1) (.var 2)) .nil)))) .nil)))
      .nop))))))))
def f47 : Cy.Fn := ⟨2, 3, b47⟩
end Bd
end

section
set_option linter.all false
set_option maxRecDepth 100000
/-! Plain: one step of the small language, as rewriting rules. -/
namespace Cy
section
variable {M : Mem} {i j : Int} {s t : List Nat} {xs ys : List D} {b c : Bool} {x y d : D} {l : Nat}
@[simp] theorem view_non : view M .non = .non := rfl
@[simp] theorem view_bl : view M (.bl b) = .bl b := rfl
@[simp] theorem view_int_ : view M (.int i) = .int i := rfl
@[simp] theorem view_str_ : view M (.str s) = .str s := rfl
@[simp] theorem view_tup_ : view M (.tup xs) = .tup xs := rfl
@[simp] theorem view_lst_ : view M (.lst xs) = .lst xs := rfl
@[simp] theorem view_dct_ {ks : List (List Nat)} : view M (.dct ks xs) = .dct ks xs := rfl
theorem view_obj (h : M[l]? = some (.lst xs)) : view M (.obj l) = .lst xs := by
  show (match M[l]? with
    | some (.lst xs) => D.lst xs
    | _ => .obj l) = _
  rw [h]
@[simp] theorem bop_add : bop .add (.int i) (.int j) M = .ok (.int (i + j)) M := rfl
@[simp] theorem bop_sub : bop .sub (.int i) (.int j) M = .ok (.int (i - j)) M := rfl
theorem bop_mul (h : wide i = true) (k : wide j = true) : bop .mul (.int i) (.int j) M = .ok (.int (i * j)) M := by
  show (if (wide i && wide j) = true then _ else _) = _
  rw [h, k]; rfl
theorem bop_fdiv (h : 0 < j) (k : j.natAbs.log2 < 9000) : bop .fdiv (.int i) (.int j) M = .ok (.int (i / j)) M := by
  show (if (decide (0 < j) && Nat.blt j.natAbs.log2 9000) = true then _ else _) = _
  rw [decide_eq_true h, show Nat.blt j.natAbs.log2 9000 = true from Nat.ble_eq_true_of_le k]; rfl
theorem bop_mod (h : 0 < j) : bop .mod (.int i) (.int j) M = .ok (.int (i % j)) M := by
  show (if 0 < j then _ else _) = _
  rw [if_pos h]
theorem bop_cat (h : s.length + t.length ≤ top) : bop .add (.str s) (.str t) M = .ok (.str (s ++ t)) M := by
  show (if Nat.ble (s.length + t.length) top = true then _ else _) = _
  rw [Nat.ble_eq_true_of_le h]; rfl
theorem bop_lst (h : xs.length + ys.length ≤ top) : bop .add (.lst xs) (.lst ys) M = .ok (.lst (xs ++ ys)) M := by
  show (if Nat.ble (xs.length + ys.length) top = true then _ else _) = _
  rw [Nat.ble_eq_true_of_le h]; rfl
theorem bop_lstL (h : xs.length + ys.length ≤ top) : bop .addL (.lst xs) (.lst ys) M = .ok (.obj M.length) (M ++ [.lst (xs ++ ys)]) := by
  show (if Nat.ble (xs.length + ys.length) top = true then mkL true (xs ++ ys) M else _) = _
  rw [Nat.ble_eq_true_of_le h]; rfl
@[simp] theorem cop_eqI : cop .eq (.int i) (.int j) M = some (i == j) := rfl
@[simp] theorem cop_neI : cop .ne (.int i) (.int j) M = some (!(i == j)) := rfl
@[simp] theorem cop_eqS : cop .eq (.str s) (.str t) M = some (s == t) := rfl
@[simp] theorem cop_neS : cop .ne (.str s) (.str t) M = some (!(s == t)) := rfl
@[simp] theorem cop_lt : cop .lt (.int i) (.int j) M = some (decide (i < j)) := rfl
@[simp] theorem cop_le : cop .le (.int i) (.int j) M = some (decide (i ≤ j)) := rfl
@[simp] theorem cop_gt : cop .gt (.int i) (.int j) M = some (decide (j < i)) := rfl
@[simp] theorem cop_ge : cop .ge (.int i) (.int j) M = some (decide (j ≤ i)) := rfl
@[simp] theorem bind_ok {α β : Type} {a : α} {f : α → Mem → Res β} : (Res.ok a M).bind f = f a M := rfl
@[simp] theorem st_ok {α : Type} {a : α} {r : Env} {f : α → Mem → Oc} : (Res.ok a M).st r f = f a M := rfl
@[simp] theorem index_lst : index (.lst xs) (.int i) = atI xs i := rfl
@[simp] theorem index_tup : index (.tup xs) (.int i) = atI xs i := rfl
theorem atI_nat {α : Type} {zs : List α} {n : Nat} : atI zs (n : Int) = zs[n]? := by
  unfold atI ixN
  rw [if_pos (by omega)]
  by_cases h : n < zs.length
  · rw [if_pos (by omega)]
    simp
  · rw [if_neg (by omega), List.getElem?_eq_none (by omega)]
    rfl
@[simp] theorem atI_0 {α : Type} {a : α} {zs : List α} : atI (a :: zs) 0 = some a := atI_nat (n := 0)
@[simp] theorem atI_1 {α : Type} {a b : α} {zs : List α} : atI (a :: b :: zs) 1 = some b := atI_nat (n := 1)
@[simp] theorem atI_2 {α : Type} {a b c : α} {zs : List α} : atI (a :: b :: c :: zs) 2 = some c := atI_nat (n := 2)
@[simp] theorem bi_len_lst : bi .len [.lst xs] M = .ok (.int xs.length) M := rfl
@[simp] theorem bi_len_str : bi .len [.str s] M = .ok (.int s.length) M := rfl
@[simp] theorem bi_len_tup : bi .len [.tup xs] M = .ok (.int xs.length) M := rfl
theorem bi_len_obj (h : M[l]? = some (.lst xs)) : bi .len [.obj l] M = .ok (.int xs.length) M := by
  unfold bi
  simp only [view_obj h]
theorem setM_0 (h : M[l]? = some (.lst (x :: xs))) : setM M l (.int 0) d = some (M.set l (.lst (d :: xs))) := by
  unfold setM
  rw [h]
  simp [ixN]
theorem setM_1 (h : M[l]? = some (.lst (x :: y :: xs))) : setM M l (.int 1) d = some (M.set l (.lst (x :: d :: xs))) := by
  unfold setM
  rw [h]
  have e : ixN (x :: y :: xs).length 1 = some 1 := by
    unfold ixN
    rw [if_pos (by decide), if_pos (by simp only [List.length_cons]; omega)]
    rfl
  simp only [e]
  rfl
end
end Cy
end

section
set_option linter.all false
set_option maxRecDepth 100000
/-! Plain: loops over lists and ranges as recursions over lists. -/
namespace Cy
/-- a for loop over what will not change -/
def foldO (t : Tg) (b : Env → Mem → Oc) : List D → Env → Mem → Oc
  | [], r, M => .nx r M
  | x :: xs, r, M => match t.to x r with
    | some r => match b r M with
      | .nx r M => foldO t b xs r M
      | .ct r M => foldO t b xs r M
      | .bk r M => .nx r M
      | o => o
    | none => .bad
/-- a comprehension over what will not change -/
def foldC (f : D → Mem → Res (Option D)) : List D → Mem → List D → Res (List D)
  | [], M, acc => .ok acc M
  | x :: xs, M, acc => match f x M with
    | .ok (some y) M1 => if Nat.blt acc.length top then foldC f xs M1 (acc ++ [y]) else .bad
    | .ok none M1 => foldC f xs M1 acc
    | _ => .bad
/-- what a source shows, if it will not change -/
def Src.list : Src → Option (List D)
  | .live (.lst xs) => some xs
  | .live (.tup xs) => some xs
  | .live _ => none
  | .fix lo n => some ((List.range n).map fun i : Nat => .int (lo + i))
  | .chr s => some (s.map fun c => .str [c])
theorem src_size {s : Src} {xs : List D} {M : Mem} (h : s.list = some xs) : s.size M = some xs.length := by
  cases s with
  | live d => cases d with
    | lst ys => cases h; rfl
    | tup ys => cases h; rfl
    | _ => cases h
  | fix lo n => cases h; simp [Src.size]
  | chr z => cases h; simp [Src.size]
theorem src_at {s : Src} {xs : List D} {M : Mem} {i : Nat} (h : s.list = some xs) : s.at_ M i = xs[i]? := by
  cases s with
  | live d => cases d with
    | lst ys => cases h; rfl
    | tup ys => cases h; rfl
    | _ => cases h
  | fix lo n =>
    cases h
    unfold Src.at_
    by_cases q : i < n
    · simp [q, Nat.blt_eq]
    · simp [q, Nat.blt_eq]
  | chr z => cases h; simp [Src.at_]
theorem loopF_eq {t : Tg} {b : Env → Mem → Oc} {s : Src} {xs : List D} (h : s.list = some xs) : ∀ (n i : Nat) (r : Env) (M : Mem), n + i = xs.length → loopF t b s n i r M = foldO t b (xs.drop i) r M := by
  intro n
  induction n with
  | zero =>
    intro i r M hi
    rw [loopF.eq_def]
    simp only [src_size h, src_at h]
    have e : xs[i]? = none := List.getElem?_eq_none (by omega)
    rw [e, List.drop_eq_nil_of_le (by omega)]
    simp only [foldO]
    rw [if_pos (Nat.ble_eq_true_of_le (by omega))]
  | succ n ih =>
    intro i r M hi
    have hlt : i < xs.length := by omega
    rw [loopF.eq_def]
    simp only [src_size h, src_at h]
    rw [List.getElem?_eq_getElem hlt, List.drop_eq_getElem_cons hlt]
    simp only [foldO]
    cases t.to xs[i] r with
    | none => rfl
    | some r' =>
      simp only
      cases b r' M with
      | nx r2 M2 => exact ih (i + 1) r2 M2 (by omega)
      | ct r2 M2 => exact ih (i + 1) r2 M2 (by omega)
      | _ => rfl
theorem loopC_eq {f : D → Mem → Res (Option D)} {s : Src} {xs : List D} (h : s.list = some xs) : ∀ (n i : Nat) (M : Mem) (acc : List D), n + i = xs.length → loopC f s n i M acc = foldC f (xs.drop i) M acc := by
  intro n
  induction n with
  | zero =>
    intro i M acc hi
    rw [loopC.eq_def]
    simp only [src_size h, src_at h]
    have e : xs[i]? = none := List.getElem?_eq_none (by omega)
    rw [e, List.drop_eq_nil_of_le (by omega)]
    simp only [foldC]
    rw [if_pos (Nat.ble_eq_true_of_le (by omega))]
  | succ n ih =>
    intro i M acc hi
    have hlt : i < xs.length := by omega
    rw [loopC.eq_def]
    simp only [src_size h, src_at h]
    rw [List.getElem?_eq_getElem hlt, List.drop_eq_getElem_cons hlt]
    simp only [foldC]
    cases f xs[i] M with
    | ok o M1 =>
      cases o with
      | none => exact ih (i + 1) M1 acc (by omega)
      | some y =>
        simp only
        split
        · exact ih (i + 1) M1 _ (by omega)
        · rfl
    | _ => rfl
/-- a for statement -/
theorem for_eq {C : Cn} {t : Tg} {it : Ex} {b : St} {r : Env} {M M1 : Mem} {s : Src} {xs : List D} (e : evI C it r M = .ok s M1) (h : s.list = some xs) : exS C (.for_ t it b) r M = foldO t (exS C b) xs r M1 := by
  simp only [exS, e, st_ok, src_size h]
  rw [loopF_eq h _ _ _ _ (by omega), List.drop_zero]
/-- a comprehension whose items' values are pure functions: no memory is touched -/
theorem foldC_map {f : D → Mem → Res (Option D)} {g : D → D} {M : Mem} : ∀ {xs : List D} {acc : List D}, (∀ x ∈ xs, f x M = .ok (some (g x)) M) → acc.length + xs.length ≤ top → foldC f xs M acc = .ok (acc ++ xs.map g) M
  | [], acc, _, _ => by simp [foldC]
  | x :: xs, acc, h, hl => by
    simp only [foldC, h x List.mem_cons_self]
    rw [if_pos (show Nat.blt acc.length top = true from Nat.ble_eq_true_of_le (by simp at hl; omega)), foldC_map (fun y hy => h y (List.mem_cons_of_mem _ hy)) (by simp at hl ⊢; omega)]
    simp
theorem foldC_filter {f : D → Mem → Res (Option D)} {p : D → Bool} {M : Mem} : ∀ {xs : List D} {acc : List D}, (∀ x ∈ xs, f x M = .ok (if p x then some x else none) M) → acc.length + xs.length ≤ top → foldC f xs M acc = .ok (acc ++ xs.filter p) M
  | [], acc, _, _ => by simp [foldC]
  | x :: xs, acc, h, hl => by
    simp only [foldC, h x List.mem_cons_self]
    by_cases q : p x = true
    · rw [if_pos q]
      simp only
      rw [if_pos (show Nat.blt acc.length top = true from Nat.ble_eq_true_of_le (by simp at hl; omega)), foldC_filter (fun y hy => h y (List.mem_cons_of_mem _ hy)) (by simp at hl ⊢; omega)]
      simp [q]
    · rw [if_neg q]
      simp only
      rw [foldC_filter (fun y hy => h y (List.mem_cons_of_mem _ hy)) (by simp at hl ⊢; omega)]
      simp [q]
end Cy
end

section
set_option linter.all false
set_option maxRecDepth 100000
/-! Plain: what each construct does, as equations that are rewritten from the left (nothing is unfolded under a binder). -/
namespace Cy
section
variable {C : Cn} {r : Env} {M : Mem} {a b c d e es o it : Ex} {s t u : St} {i n f m k : Nat} {l : Bool}
theorem q_var : evE C (.var i) r M = match r[i]? with
    | some (some d) => .ok d M
    | _ => .bad := by
  first
  | rfl
  | simp only [evE, evA, evI, evP, exS, Res.bind, Res.st]
theorem q_cN : evE C .cN r M = .ok .non M := by
  first
  | rfl
  | simp only [evE, evA, evI, evP, exS, Res.bind, Res.st]
theorem q_cB {x : Bool} : evE C (.cB x) r M = .ok (.bl x) M := by
  first
  | rfl
  | simp only [evE, evA, evI, evP, exS, Res.bind, Res.st]
theorem q_cI {x : Int} : evE C (.cI x) r M = .ok (.int x) M := by
  first
  | rfl
  | simp only [evE, evA, evI, evP, exS, Res.bind, Res.st]
theorem q_cS {x : List Nat} : evE C (.cS x) r M = .ok (.str x) M := by
  first
  | rfl
  | simp only [evE, evA, evI, evP, exS, Res.bind, Res.st]
theorem q_gl {x : Nat} : evE C (.gl x) r M = match C.con x with
    | some d => .ok d M
    | none => .bad := by
  first
  | rfl
  | simp only [evE, evA, evI, evP, exS, Res.bind, Res.st]
theorem q_bin {q : BOp} : evE C (.bin q a b) r M = match evE C a r M with
    | .ok x M => (match evE C b r M with
      | .ok y M => bop q x y M
      | .exc e M => .exc e M
      | .bad => .bad)
    | .exc e M => .exc e M
    | .bad => .bad := by
  show (evE C a r M).bind _ = _
  generalize evE C a r M = w
  cases w with
  | ok x1 M1 =>
    dsimp only [Res.bind]
    generalize evE C b r M1 = w
    cases w <;> rfl
  | _ => rfl
theorem q_neg : evE C (.neg a) r M = match evE C a r M with
    | .ok (.int i) M => .ok (.int (-i)) M
    | .ok _ _ => .bad
    | .exc e M => .exc e M
    | .bad => .bad := by
  show (evE C a r M).bind _ = _
  cases evE C a r M with
  | ok x M => cases x <;> rfl
  | _ => rfl
theorem q_cmp {q : COp} : evE C (.cmp q a b) r M = match evE C a r M with
    | .ok x M => (match evE C b r M with
      | .ok y M => (match cop q x y M with
        | some k => .ok (.bl k) M
        | none => .bad)
      | .exc e M => .exc e M
      | .bad => .bad)
    | .exc e M => .exc e M
    | .bad => .bad := by
  show (evE C a r M).bind _ = _
  generalize evE C a r M = w
  cases w with
  | ok x1 M1 =>
    dsimp only [Res.bind]
    generalize evE C b r M1 = w
    cases w <;> rfl
  | _ => rfl
theorem q_ch2 {p q : COp} : evE C (.ch2 p q a b c) r M = match evE C a r M with
    | .ok x M => (match evE C b r M with
      | .ok y M => (match cop p x y M with
        | some true => (match evE C c r M with
          | .ok z M => (match cop q y z M with
            | some k => .ok (.bl k) M
            | none => .bad)
          | .exc e M => .exc e M
          | .bad => .bad)
        | some false => .ok (.bl false) M
        | none => .bad)
      | .exc e M => .exc e M
      | .bad => .bad)
    | .exc e M => .exc e M
    | .bad => .bad := by
  show (evE C a r M).bind _ = _
  generalize evE C a r M = w
  cases w with
  | ok x1 M1 =>
    dsimp only [Res.bind]
    generalize evE C b r M1 = w
    cases w with
    | ok y1 M2 =>
      dsimp only
      cases cop p x1 y1 M2 with
      | none => rfl
      | some v =>
        cases v with
        | false => rfl
        | true =>
          dsimp only
          generalize evE C c r M2 = w
          cases w <;> rfl
    | _ => rfl
  | _ => rfl
theorem q_and : evE C (.and a b) r M = match evE C a r M with
    | .ok (.bl true) M => evE C b r M
    | .ok (.bl false) M => .ok (.bl false) M
    | .ok _ _ => .bad
    | .exc e M => .exc e M
    | .bad => .bad := by
  show (evE C a r M).bind _ = _
  cases evE C a r M with
  | ok x M => cases x <;> first | rfl | (rename_i k; cases k <;> rfl)
  | _ => rfl
theorem q_or : evE C (.or a b) r M = match evE C a r M with
    | .ok (.bl false) M => evE C b r M
    | .ok (.bl true) M => .ok (.bl true) M
    | .ok _ _ => .bad
    | .exc e M => .exc e M
    | .bad => .bad := by
  show (evE C a r M).bind _ = _
  cases evE C a r M with
  | ok x M => cases x <;> first | rfl | (rename_i k; cases k <;> rfl)
  | _ => rfl
theorem q_not : evE C (.not a) r M = match evE C a r M with
    | .ok (.bl k) M => .ok (.bl (!k)) M
    | .ok _ _ => .bad
    | .exc e M => .exc e M
    | .bad => .bad := by
  show (evE C a r M).bind _ = _
  cases evE C a r M with
  | ok x M => cases x <;> rfl
  | _ => rfl
theorem q_ite : evE C (.ite c a b) r M = match evE C c r M with
    | .ok (.bl true) M => evE C a r M
    | .ok (.bl false) M => evE C b r M
    | .ok _ _ => .bad
    | .exc e M => .exc e M
    | .bad => .bad := by
  show (evE C c r M).bind _ = _
  cases evE C c r M with
  | ok x M => cases x <;> first | rfl | (rename_i k; cases k <;> rfl)
  | _ => rfl
theorem q_tup : evE C (.tup es) r M = match evA C es r M with
    | .ok xs M => if Nat.ble xs.length top then .ok (.tup xs) M else .bad
    | .exc e M => .exc e M
    | .bad => .bad := by
  show (evA C es r M).bind _ = _
  generalize evA C es r M = w
  cases w <;> rfl
theorem q_lst : evE C (.lst l es) r M = match evA C es r M with
    | .ok xs M => if Nat.ble xs.length top then mkL l xs M else .bad
    | .exc e M => .exc e M
    | .bad => .bad := by
  show (evA C es r M).bind _ = _
  generalize evA C es r M = w
  cases w <;> rfl
theorem q_idx : evE C (.idx a b) r M = match evE C a r M with
    | .ok x M => (match evE C b r M with
      | .ok y M => (match index (view M x) y with
        | some d => .ok d M
        | none => .bad)
      | .exc e M => .exc e M
      | .bad => .bad)
    | .exc e M => .exc e M
    | .bad => .bad := by
  show (evE C a r M).bind _ = _
  generalize evE C a r M = w
  cases w with
  | ok x1 M1 =>
    dsimp only [Res.bind]
    generalize evE C b r M1 = w
    cases w <;> rfl
  | _ => rfl
theorem q_call (h : C.has f = true) : evE C (.call f es) r M = match evA C es r M with
    | .ok xs M => C.call f xs M
    | .exc e M => .exc e M
    | .bad => .bad := by
  show (if C.has f then _ else _) = _
  rw [if_pos h]
  generalize evA C es r M = w
  cases w <;> rfl
theorem q_pcall (h : C.has f = true) : evE C (.pcall f es) r M = match evA C es r M with
    | .ok xs M => if D.pureL xs then pcall C f xs M else .bad
    | .exc e M => .exc e M
    | .bad => .bad := by
  show (if C.has f then _ else _) = _
  rw [if_pos h]
  generalize evA C es r M = w
  cases w <;> rfl
theorem q_bi {q : Bi} : evE C (.bi q es) r M = match evA C es r M with
    | .ok xs M => bi q xs M
    | .exc e M => .exc e M
    | .bad => .bad := by
  show (evA C es r M).bind _ = _
  generalize evA C es r M = w
  cases w <;> rfl
theorem q_bm {q : Bm} : evE C (.bm q o es) r M = match evE C o r M with
    | .ok x M => if bmOk q x M then (match evA C es r M with
      | .ok xs M => bm q x xs M
      | .exc e M => .exc e M
      | .bad => .bad) else .bad
    | .exc e M => .exc e M
    | .bad => .bad := by
  show (evE C o r M).bind _ = _
  generalize evE C o r M = w
  cases w with
  | ok x1 M1 =>
    dsimp only [Res.bind]
    generalize evA C es r M1 = w
    cases w <;> rfl
  | _ => rfl
theorem q_nil : evA C .nil r M = .ok [] M := by
  first
  | rfl
  | simp only [evE, evA, evI, evP, exS, Res.bind, Res.st]
theorem q_cons : evA C (.cons e es) r M = match evE C e r M with
    | .ok x M => (match evA C es r M with
      | .ok xs M => .ok (x :: xs) M
      | .exc e M => .exc e M
      | .bad => .bad)
    | .exc e M => .exc e M
    | .bad => .bad := by
  show (evE C e r M).bind _ = _
  generalize evE C e r M = w
  cases w with
  | ok x1 M1 =>
    dsimp only [Res.bind]
    generalize evA C es r M1 = w
    cases w <;> rfl
  | _ => rfl
theorem q_src : evI C (.src e) r M = match evE C e r M with
    | .ok x M => if (items (view M x)).isSome then .ok (.live x) M else .bad
    | .exc e M => .exc e M
    | .bad => .bad := by
  show (evE C e r M).bind _ = _
  generalize evE C e r M = w
  cases w <;> rfl
theorem q_rng1 : evI C (.rng1 e) r M = match evE C e r M with
    | .ok (.int j) M => if small j then .ok (.fix 0 j.toNat) M else .bad
    | .ok _ _ => .bad
    | .exc e M => .exc e M
    | .bad => .bad := by
  show (evE C e r M).bind _ = _
  cases evE C e r M with
  | ok x M => cases x <;> rfl
  | _ => rfl
/-- a comprehension over what will not change -/
def itemR (C : Cn) (t : Tg) (c e : Ex) (r : Env) (x : D) (M : Mem) : Res (Option D) := match t.to x (wipeR r t.slots) with
  | some r => match evE C c r M with
    | .ok (.bl true) M => match evE C e r M with
      | .ok d M => .ok (some d) M
      | _ => .bad
    | .ok (.bl false) M => .ok none M
    | _ => .bad
  | none => .bad
theorem q_comp {t : Tg} {src : Src} {xs ys : List D} {M1 M2 : Mem} (h : evI C it r M = .ok src M1) (hx : src.list = some xs) (hf : foldC (itemR C t c e r) xs M1 [] = .ok ys M2) : evE C (.comp l t it c e) r M = mkL l ys M2 := by
  show (evI C it r M).bind _ = _
  rw [h]
  simp only [bind_ok, src_size hx]
  show (loopC (itemR C t c e r) src xs.length 0 M1 []).bind _ = _
  rw [loopC_eq hx _ _ _ _ (by omega), List.drop_zero, hf]
  rfl
theorem q_nop : exS C .nop r M = .nx r M := by
  first
  | rfl
  | simp only [evE, evA, evI, evP, exS, Res.bind, Res.st]
theorem q_seq : exS C (.seq s t) r M = match exS C s r M with
    | .nx r M => exS C t r M
    | o => o := by
  show (match exS C s r M with
    | .nx r M => exS C t r M
    | o => o) = _
  cases exS C s r M <;> rfl
theorem q_ret : exS C (.ret e) r M = match evE C e r M with
    | .ok d M => .rt d M
    | .exc e M => .ex e r M
    | .bad => .bad := by
  show (evE C e r M).st r _ = _
  generalize evE C e r M = w
  cases w <;> rfl
theorem q_exp : exS C (.exp e) r M = match evE C e r M with
    | .ok _ M => .nx r M
    | .exc e M => .ex e r M
    | .bad => .bad := by
  show (evE C e r M).st r _ = _
  generalize evE C e r M = w
  cases w <;> rfl
theorem q_set {g : Tg} : exS C (.set g e) r M = match evE C e r M with
    | .ok d M => (match g.to d r with
      | some r => .nx r M
      | none => .bad)
    | .exc e M => .ex e r M
    | .bad => .bad := by
  show (evE C e r M).st r _ = _
  generalize evE C e r M = w
  cases w <;> rfl
theorem q_par {is : List Nat} : exS C (.par is es) r M = match evA C es r M with
    | .ok ds M => if is.length == ds.length then .nx (setAll is ds r) M else .bad
    | .exc e M => .ex e r M
    | .bad => .bad := by
  show (evA C es r M).st r _ = _
  generalize evA C es r M = w
  cases w <;> rfl
theorem q_if : exS C (.ite c s t) r M = match evE C c r M with
    | .ok (.bl true) M => exS C s r M
    | .ok (.bl false) M => exS C t r M
    | .ok _ _ => .bad
    | .exc e M => .ex e r M
    | .bad => .bad := by
  show (evE C c r M).st r _ = _
  cases evE C c r M with
  | ok x M => cases x <;> first | rfl | (rename_i k; cases k <;> rfl)
  | _ => rfl
theorem q_for {g : Tg} {src : Src} {xs : List D} {M1 : Mem} (h : evI C it r M = .ok src M1) (hx : src.list = some xs) : exS C (.for_ g it s) r M = foldO g (exS C s) xs r M1 := for_eq h hx
end
theorem run_eq {P : Prog} {k f : Nat} {F : Fn} {args : List D} {M : Mem} (h : P.fn f = some F) (hl : args.length = F.np) : runF P (k + 1) f args M = (exS (P.cn (runF P k)) F.body (begin_ F.n args) M).res := by
  rw [runF]
  simp only [h, hl, beq_self_eq_true, if_true]
end Cy
end

section
set_option linter.all false
set_option maxRecDepth 100000
/-! Plain: the random source. -/
namespace Cy
/-- the source: seed, the rest of the big number, big numbers to come -/
structure Rnd where
  a : Int
  b : Int
  c : List Int
def Rnd.d (s : Rnd) : List D := .int s.a :: .int s.b :: s.c.map .int
def Rnd.draw0 (s : Rnd) : Rnd := if s.b = 0 then match s.c with
  | [] => s
  | x :: r => ⟨s.a, x, r⟩ else s
def Rnd.next (s : Rnd) (n : Int) : Rnd := if 0 < s.draw0.b then ⟨s.draw0.a, s.draw0.b / n, s.draw0.c⟩ else ⟨(s.draw0.a * 48271 + 11) % 2147483647, s.draw0.b, s.draw0.c⟩
def Rnd.out (s : Rnd) (n : Int) : Int := if 0 < s.draw0.b then s.draw0.b % n else (s.draw0.a * 48271 + 11) % 2147483647 / 64 % n
theorem below_run {P : Prog} (h : P.fn 28 = some Bd.f28) {k l : Nat} {M : Mem} {s : Rnd} {n : Int} (hM : M[l]? = some (.lst s.d)) (hn : 0 < n) (hs : n.natAbs.log2 < 9000) (ha : 0 ≤ s.a ∧ s.a < 2147483647) :
    runF P (k + 1) 28 [.obj l, .int n] M = .ok (.int (s.out n)) (M.set l (.lst (s.next n).d)) := by
  obtain ⟨a, b, c⟩ := s
  have hlt : l < M.length := (List.getElem?_eq_some_iff.mp hM).1
  have get : ∀ o, (M.set l o)[l]? = some o := fun o => List.getElem?_set_self hlt
  have ha1 : 0 ≤ a := ha.1
  have ha2 : a < 2147483647 := ha.2
  have w1 : wide a = true := by
    unfold wide
    refine Nat.ble_eq_true_of_le ?_
    show a.natAbs.log2 + 1 ≤ 400000
    by_cases z : a.natAbs = 0
    · rw [z]; decide
    · have : a.natAbs.log2 < 31 := (Nat.log2_lt z).mpr (by omega)
      omega
  have w2 : wide 48271 = true := by decide
  have m1 : ∀ M, bop .mul (.int a) (.int 48271) M = .ok (.int (a * 48271)) M := fun M => bop_mul w1 w2
  have m2 : ∀ i M, bop .mod (.int i) (.int 2147483647) M = .ok (.int (i % 2147483647)) M := fun i M => bop_mod (by decide)
  have m3 : ∀ i M, bop .fdiv (.int i) (.int 64) M = .ok (.int (i / 64)) M := fun i M => bop_fdiv (by decide) (by decide)
  have m4 : ∀ i M, bop .mod (.int i) (.int n) M = .ok (.int (i % n)) M := fun i M => bop_mod hn
  have m5 : ∀ i M, bop .fdiv (.int i) (.int n) M = .ok (.int (i / n)) M := fun i M => bop_fdiv hn hs
  have v0 : ∀ xs, view (M.set l (.lst xs)) (.obj l) = .lst xs := fun xs => view_obj (get _)
  have hM : M[l]? = some (.lst (.int a :: .int b :: c.map .int)) := hM
  have v1 := view_obj hM
  have l1 := bi_len_obj hM
  have s0 : ∀ (x : D) xs d, setM (M.set l (.lst (x :: xs))) l (.int 0) d = some ((M.set l (.lst (x :: xs))).set l (.lst (d :: xs))) := fun x xs d => setM_0 (get _)
  have s1 : ∀ (x y : D) xs d, setM (M.set l (.lst (x :: y :: xs))) l (.int 1) d = some ((M.set l (.lst (x :: y :: xs))).set l (.lst (x :: d :: xs))) := fun x y xs d => setM_1 (get _)
  have s2 : ∀ d, setM M l (.int 0) d = some (M.set l (.lst (d :: .int b :: c.map .int))) := fun d => setM_0 hM
  have s3 : ∀ d, setM M l (.int 1) d = some (M.set l (.lst (.int a :: d :: c.map .int))) := fun d => setM_1 hM
  simp only [runF, h, Bd.f28, Bd.b28]
  by_cases hb : b = 0
  · subst hb
    cases c with
    | nil =>
      simp [exS, evE, evA, begin_, Oc.res, Tg.to, v1, l1, Rnd.d, Rnd.out, Rnd.next, Rnd.draw0, s0, s1, s2, s3, v0, m1, m2, m3, m4, m5, List.set_set]
    | cons x r =>
      have hl : decide (2 < (r.length : Int) + 1 + 1 + 1) = true := decide_eq_true (by omega)
      by_cases hx : 0 < x
      · simp [exS, evE, evA, begin_, Oc.res, Tg.to, v1, l1, Rnd.d, Rnd.out, Rnd.next, Rnd.draw0, s0, s1, s2, s3, v0, m1, m2, m3, m4, m5, List.set_set, hx, bm, bmOk, hM, small, hl]
      · simp [exS, evE, evA, begin_, Oc.res, Tg.to, v1, l1, Rnd.d, Rnd.out, Rnd.next, Rnd.draw0, s0, s1, s2, s3, v0, m1, m2, m3, m4, m5, List.set_set, hx, bm, bmOk, hM, small, hl]
  · have hbb : (b == 0) = false := by simpa using hb
    by_cases hx : 0 < b
    · simp [exS, evE, evA, begin_, Oc.res, Tg.to, v1, l1, Rnd.d, Rnd.out, Rnd.next, Rnd.draw0, s0, s1, s2, s3, v0, m1, m2, m3, m4, m5, List.set_set, hx, hb, hbb]
    · simp [exS, evE, evA, begin_, Oc.res, Tg.to, v1, l1, Rnd.d, Rnd.out, Rnd.next, Rnd.draw0, s0, s1, s2, s3, v0, m1, m2, m3, m4, m5, List.set_set, hx, hb, hbb]
theorem draw0_a {s : Rnd} : s.draw0.a = s.a := by
  unfold Rnd.draw0
  split
  · cases s.c <;> rfl
  · rfl
theorem next_ok {s : Rnd} {n : Int} (ha : 0 ≤ s.a ∧ s.a < 2147483647) : 0 ≤ (s.next n).a ∧ (s.next n).a < 2147483647 := by
  unfold Rnd.next
  split
  · rw [draw0_a]; exact ha
  · exact ⟨Int.emod_nonneg _ (by decide), Int.emod_lt_of_pos _ (by decide)⟩
theorem out_ok {s : Rnd} {n : Int} (hn : 0 < n) : 0 ≤ s.out n ∧ s.out n < n := by
  unfold Rnd.out
  split <;> exact ⟨Int.emod_nonneg _ (by omega), Int.emod_lt_of_pos _ hn⟩
end Cy
end

section
set_option linter.all false
set_option maxRecDepth 100000
/-! Plain: the random source is made. -/
namespace Cy
def seedOf (salt : Int) (ns : List Int) : Int := ns.foldl (fun s c => (s * 31 + (if c < 0 then -c else c)) % 2147483647) salt
def rndOf (salt : Int) (ns : List Int) : Rnd := ⟨seedOf salt ns, 0, ns.filter fun c => decide (1000000000000000000 ≤ c)⟩
theorem seed_ok : ∀ {ns : List Int} {s : Int}, 0 ≤ s ∧ s < 2147483647 → 0 ≤ seedOf s ns ∧ seedOf s ns < 2147483647
  | [], s, h => h
  | c :: r, s, h => seed_ok (ns := r) ⟨Int.emod_nonneg _ (by decide), Int.emod_lt_of_pos _ (by decide)⟩
theorem rnd_ok {ns : List Int} {s : Int} (h : 0 ≤ s ∧ s < 2147483647) : 0 ≤ (rndOf s ns).a ∧ (rndOf s ns).a < 2147483647 := seed_ok h
theorem wide_31 {a : Int} (h : 0 ≤ a ∧ a < 2147483647) : wide a = true := by
  unfold wide
  refine Nat.ble_eq_true_of_le ?_
  show a.natAbs.log2 + 1 ≤ 400000
  by_cases z : a.natAbs = 0
  · rw [z]; decide
  · have : a.natAbs.log2 < 31 := (Nat.log2_lt z).mpr (by omega)
    omega
theorem seed_loop {C : Cn} {x y : D} : ∀ {ns : List Int} {s : Int} {z : Option D} {M : Mem}, 0 ≤ s ∧ s < 2147483647 →
    ∃ z', foldO (.nm 3) (exS C (.seq (.set (.nm 2) (.bin .mod (.bin .add (.bin .mul (.var 2) (.cI 31)) (.bi .abs (.cons (.var 3) .nil))) (.cI 2147483647))) .nop)) (ns.map .int) [some x, some y, some (.int s), z] M = .nx [some x, some y, some (.int (seedOf s ns)), z'] M
  | [], s, z, M, h => ⟨z, rfl⟩
  | c :: r, s, z, M, h => by
    have w1 := wide_31 h
    have w2 : wide 31 = true := by decide
    have m1 : bop .mul (.int s) (.int 31) M = .ok (.int (s * 31)) M := bop_mul w1 w2
    have m2 : ∀ i M, bop .mod (.int i) (.int 2147483647) M = .ok (.int (i % 2147483647)) M := fun i M => bop_mod (by decide)
    obtain ⟨z', e⟩ := seed_loop (C := C) (x := x) (y := y) (ns := r) (s := (s * 31 + (if c < 0 then -c else c)) % 2147483647) (z := some (.int c)) (M := M) ⟨Int.emod_nonneg _ (by decide), Int.emod_lt_of_pos _ (by decide)⟩
    refine ⟨z', ?_⟩
    rw [← show seedOf ((s * 31 + (if c < 0 then -c else c)) % 2147483647) r = seedOf s (c :: r) from rfl]
    rw [← e]
    simp [foldO, exS, evE, evA, Tg.to, m1, m2, bi]
theorem random_run {P : Prog} (h : P.fn 25 = some Bd.f25) {k : Nat} {M : Mem} {ns : List Int} {salt : Int} (hl : ns.length ≤ 1000) (hs : 0 ≤ salt ∧ salt < 2147483647) :
    runF P (k + 1) 25 [.lst (ns.map .int), .int salt] M = .ok (.obj M.length) (M ++ [.lst (rndOf salt ns).d]) := by
  simp only [runF, h, Bd.f25, Bd.b25]
  generalize P.cn (runF P k) = C
  obtain ⟨z', e⟩ := seed_loop (C := C) (x := .lst (ns.map .int)) (y := .int salt) (ns := ns) (s := salt) (z := none) (M := M) hs
  have ev : evI C (.src (.var 0)) [some (.lst (ns.map .int)), some (.int salt), some (.int salt), none] M = .ok (.live (.lst (ns.map .int))) M := rfl
  have ev2 : evI C (.src (.var 0)) [some (.lst (ns.map .int)), some (.int salt), some (.int (seedOf salt ns)), z'] M = .ok (.live (.lst (ns.map .int))) M := rfl
  have hf := (q_for (C := C) (g := .nm 3) (s := .seq (.set (.nm 2) (.bin .mod (.bin .add (.bin .mul (.var 2) (.cI 31)) (.bi .abs (.cons (.var 3) .nil))) (.cI 2147483647))) .nop) ev rfl).trans e
  have p1 : ∀ M, bop .pow (.int 10) (.int 18) M = .ok (.int 1000000000000000000) M := fun M => rfl
  have g1 : ∀ (xs : List Int) (acc : List D), acc.length + xs.length ≤ top → foldC (itemR C (.nm 3) (.cmp .ge (.var 3) (.bin .pow (.cI 10) (.cI 18))) (.var 3) [some (.lst (ns.map .int)), some (.int salt), some (.int (seedOf salt ns)), z']) (xs.map .int) M acc =
      .ok (acc ++ (xs.filter fun c => decide (1000000000000000000 ≤ c)).map .int) M := by
    intro xs
    induction xs with
    | nil => intro acc _; simp [foldC]
    | cons c r ih =>
      intro acc hl
      simp only [List.map_cons, foldC]
      have e1 : itemR C (.nm 3) (.cmp .ge (.var 3) (.bin .pow (.cI 10) (.cI 18))) (.var 3) [some (.lst (ns.map .int)), some (.int salt), some (.int (seedOf salt ns)), z'] (.int c) M = if 1000000000000000000 ≤ c then .ok (some (.int c)) M else .ok none M := by
        unfold itemR
        simp only [Tg.to, Tg.slots, wipeR, q_cmp, q_var, q_bin, q_cI, p1, cop_ge, List.set_cons_succ, List.set_cons_zero, List.getElem?_cons_succ, List.getElem?_cons_zero]
        by_cases q : (1000000000000000000 : Int) ≤ c
        · simp [q]
        · simp [q]
      rw [e1]
      by_cases q : (1000000000000000000 : Int) ≤ c
      · rw [if_pos q]
        simp only
        rw [if_pos (show Nat.blt acc.length top = true from Nat.ble_eq_true_of_le (by simp at hl; omega)), ih _ (by simp at hl ⊢; omega)]
        simp [q]
      · rw [if_neg q]
        simp only
        rw [ih _ (by simp at hl ⊢; omega)]
        simp [q]
  have hc := q_comp (C := C) (l := false) (t := .nm 3) (c := .cmp .ge (.var 3) (.bin .pow (.cI 10) (.cI 18))) (e := .var 3) ev2 rfl (g1 ns [] (by unfold top; simp; omega))
  have hlen : ((ns.filter fun c => decide (1000000000000000000 ≤ c)).map D.int).length ≤ 1000 := by
    rw [List.length_map]
    exact Nat.le_trans (List.length_filter_le _ _) hl
  have hcat : bop .addL (.lst [.int (seedOf salt ns), .int 0]) (.lst ((ns.filter fun c => decide (1000000000000000000 ≤ c)).map D.int)) M = .ok (.obj M.length) (M ++ [.lst (rndOf salt ns).d]) := by
    rw [bop_lstL (by unfold top; simp at hlen ⊢; omega)]
    rfl
  have b1 : begin_ 4 [.lst (ns.map .int), .int salt] = [some (.lst (ns.map .int)), some (.int salt), none, none] := rfl
  have t2 : Nat.ble 2 top = true := by decide
  simp only [List.length_cons, List.length_nil, b1, q_seq, q_set, q_var, q_ret, q_bin, q_lst, q_cons, q_nil, q_cI, Tg.to, hf, hc, hcat, mkL, t2, Oc.res, List.set_cons_succ, List.set_cons_zero, List.getElem?_cons_succ, List.getElem?_cons_zero, List.nil_append, ↓reduceIte, Nat.reduceAdd, beq_self_eq_true]
end Cy
end

section
set_option linter.all false
set_option maxRecDepth 100000
/-! Plain: Euclid. -/
namespace Cy
def gcdC (C : Cn) : Env → Mem → Res D := evE C (.cmp .gt (.var 1) (.cI 0))
def gcdB (C : Cn) : Env → Mem → Oc := exS C (.seq (.par [0, 1] (.cons (.var 1) (.cons (.bin .mod (.var 0) (.var 1)) .nil))) .nop)
theorem gcd_end {C : Cn} {n : Nat} {a : Int} {M : Mem} : loopW (gcdC C) (gcdB C) (n + 1) [some (.int a), some (.int 0)] M = .nx [some (.int a), some (.int 0)] M := by
  unfold loopW gcdC
  simp only [q_cmp, q_var, q_cI, cop_gt, List.getElem?_cons_succ, List.getElem?_cons_zero, st_ok]
  rfl
theorem gcd_step {C : Cn} {n : Nat} {a : Int} {b : Nat} {M : Mem} (hb : 0 < b) : loopW (gcdC C) (gcdB C) (n + 1) [some (.int a), some (.int b)] M = loopW (gcdC C) (gcdB C) n [some (.int b), some (.int (a % b))] M := by
  conv => lhs; unfold loopW gcdC gcdB
  have h1 : (decide ((0 : Int) < (b : Int))) = true := decide_eq_true (by omega)
  simp only [q_cmp, q_var, q_cI, cop_gt, List.getElem?_cons_succ, List.getElem?_cons_zero, st_ok, h1, q_seq, q_par, q_cons, q_nil, q_bin, bop_mod (show (0 : Int) < (b : Int) by omega), q_nop]
  rfl
theorem gcd_loop {C : Cn} {M : Mem} : ∀ (n m : Nat) (a b : Nat), b < 2 ^ n → ∃ z : Int, loopW (gcdC C) (gcdB C) (2 * n + 1 + m) [some (.int a), some (.int b)] M = .nx [some (.int (Nat.gcd a b)), some (.int z)] M
  | 0, m, a, b, h => by
    have e : b = 0 := by simpa using h
    subst e
    refine ⟨0, ?_⟩
    rw [show 2 * 0 + 1 + m = m + 1 by omega, Nat.gcd_zero_right]
    exact gcd_end
  | n + 1, m, a, b, h => by
    by_cases hb : b = 0
    · subst hb
      refine ⟨0, ?_⟩
      rw [show 2 * (n + 1) + 1 + m = (2 * n + 2 + m) + 1 by omega, Nat.gcd_zero_right]
      exact gcd_end
    · have pb : 0 < b := Nat.pos_of_ne_zero hb
      rw [show 2 * (n + 1) + 1 + m = (2 * n + 1 + m + 1) + 1 by omega, gcd_step pb, show ((a : Int) % (b : Int)) = ((a % b : Nat) : Int) from (Int.natCast_emod a b).symm]
      by_cases hc : a % b = 0
      · rw [hc]
        refine ⟨0, ?_⟩
        have g : Nat.gcd a b = b := by rw [Nat.gcd_comm, Nat.gcd_rec, hc, Nat.gcd_zero_left]
        rw [g]
        exact gcd_end
      · have pc : 0 < a % b := Nat.pos_of_ne_zero hc
        have lt : a % b < b := Nat.mod_lt _ pb
        rw [gcd_step pc, show (((b : Nat) : Int) % ((a % b : Nat) : Int)) = ((b % (a % b) : Nat) : Int) from (Int.natCast_emod b (a % b)).symm]
        have half : b % (a % b) < 2 ^ n := by
          have h2 : b % (a % b) < a % b := Nat.mod_lt _ pc
          have h3 : b % (a % b) + a % b ≤ b := by
            have h4 := Nat.div_add_mod b (a % b)
            have h5 : 1 ≤ b / (a % b) := Nat.div_pos (Nat.le_of_lt lt) pc
            have h6 : a % b * 1 ≤ a % b * (b / (a % b)) := Nat.mul_le_mul_left _ h5
            omega
          rw [Nat.pow_succ] at h
          omega
        obtain ⟨z, e⟩ := gcd_loop (C := C) (M := M) n m (a % b) (b % (a % b)) half
        refine ⟨z, ?_⟩
        rw [e]
        have g : Nat.gcd (a % b) (b % (a % b)) = Nat.gcd a b := by
          rw [Nat.gcd_comm (a % b) (b % (a % b)), ← Nat.gcd_rec (a % b) b, ← Nat.gcd_rec b a, Nat.gcd_comm]
        rw [g]
theorem gcd_body {C : Cn} {M : Mem} {a b : Nat} (hb : b < 2 ^ 400000) : exS C (.seq (.whl 1000000 (.cmp .gt (.var 1) (.cI 0)) (.seq (.par [0, 1] (.cons (.var 1) (.cons (.bin .mod (.var 0) (.var 1)) .nil))) .nop)) (.seq (.ret (.var 0)) .nop)) [some (.int a), some (.int b)] M = .rt (.int (Nat.gcd a b)) M := by
  obtain ⟨z, e⟩ := gcd_loop (C := C) (M := M) 400000 199999 a b hb
  have hw : exS C (.whl 1000000 (.cmp .gt (.var 1) (.cI 0)) (.seq (.par [0, 1] (.cons (.var 1) (.cons (.bin .mod (.var 0) (.var 1)) .nil))) .nop)) [some (.int a), some (.int b)] M = .nx [some (.int (Nat.gcd a b)), some (.int z)] M := e
  simp only [q_seq, hw, q_ret, q_var, List.getElem?_cons_zero]
theorem gcd_run {P : Prog} {f : Nat} (h : P.fn f = some Bd.f6) {k : Nat} {M : Mem} {a b : Nat} (hb : b < 2 ^ 400000) : runF P (k + 1) f [.int a, .int b] M = .ok (.int (Nat.gcd a b)) M := by
  rw [run_eq h rfl]
  show (exS _ Bd.b6 [some (.int (a : Int)), some (.int (b : Int))] M).res = _
  rw [show exS (P.cn (runF P k)) Bd.b6 [some (.int (a : Int)), some (.int (b : Int))] M = _ from gcd_body hb]
  rfl
/-- a ratio: made small by the greatest common divisor -/
theorem ratio_run {P : Prog} {f g k : Nat} (hg : P.fn g = some Bd.f6) (gl : P.glob g = true) (h : P.fn f = some ⟨2, 3, .seq (.set (.nm 2) (.pcall g (.cons (.bi .abs (.cons (.var 0) .nil)) (.cons (.var 1) .nil))))
      (.seq (.ret (.tup (.cons (.bin .fdiv (.var 0) (.var 2)) (.cons (.bin .fdiv (.var 1) (.var 2)) .nil)))) .nop)⟩) {M : Mem} {a b : Nat} (pb : 0 < b) (hb : b < 2 ^ 8000) :
    runF P (k + 2) f [.int a, .int b] M = .ok (.tup [.int (a / Nat.gcd a b : Nat), .int (b / Nat.gcd a b : Nat)]) M := by
  have pg : 0 < Nat.gcd a b := Nat.gcd_pos_of_pos_right _ pb
  have le : Nat.gcd a b ≤ b := Nat.le_of_dvd pb (Nat.gcd_dvd_right a b)
  have small : ((Nat.gcd a b : Nat) : Int).natAbs.log2 < 9000 := by
    rw [Int.natAbs_natCast]
    have : (Nat.gcd a b).log2 < 8000 := (Nat.log2_lt (by omega)).mpr (by omega)
    omega
  have r0 : runF P (k + 1) g [.int a, .int b] [] = .ok (.int (Nat.gcd a b)) [] := gcd_run hg (Nat.lt_trans hb (Nat.pow_lt_pow_right (by decide) (by decide)))
  have hp : ∀ M, pcall (P.cn (runF P (k + 1))) g [.int a, .int b] M = .ok (.int (Nat.gcd a b)) M := fun M => by
    unfold pcall
    rw [show (P.cn (runF P (k + 1))).call g [.int a, .int b] [] = _ from r0]
    rfl
  have habs : ∀ M, bi .abs [.int (a : Int)] M = .ok (.int a) M := fun M => by
    show (Res.ok (D.int (if (a : Int) < 0 then -(a : Int) else a)) M : Res D) = _
    rw [if_neg (by omega)]
  have d1 : ∀ M, bop .fdiv (.int (a : Int)) (.int (Nat.gcd a b : Nat)) M = .ok (.int (a / Nat.gcd a b : Nat)) M := fun M => by
    rw [bop_fdiv (by omega) small, Int.natCast_ediv]
  have d2 : ∀ M, bop .fdiv (.int (b : Int)) (.int (Nat.gcd a b : Nat)) M = .ok (.int (b / Nat.gcd a b : Nat)) M := fun M => by
    rw [bop_fdiv (by omega) small, Int.natCast_ediv]
  have hh : (P.cn (runF P (k + 1))).has g = true := gl
  have t2 : Nat.ble 2 top = true := by decide
  have pu : D.pureL [.int (a : Int), .int (b : Int)] = true := rfl
  rw [show k + 2 = (k + 1) + 1 from rfl, run_eq h rfl]
  show (exS _ _ [some (.int (a : Int)), some (.int (b : Int)), none] M).res = _
  simp only [q_seq, q_set, q_pcall hh, q_cons, q_nil, q_bi, q_var, q_ret, q_tup, q_bin, habs, hp, pu, d1, d2, t2, Tg.to, Oc.res, List.length_cons, List.length_nil, List.set_cons_succ, List.set_cons_zero, List.getElem?_cons_succ, List.getElem?_cons_zero, ↓reduceIte, Nat.reduceAdd]
end Cy
end

section
set_option linter.all false
set_option maxRecDepth 100000
/-! Plain: the law's random trees. -/
namespace Cy
/-- a tree as the laws draw it -/
inductive Tr where
  | word (w : List Nat)
  | rest
  | row (ts : List Tr)
  | lay (ts : List Tr)
  | turn (ts : List Tr)
  | fast (n : Nat) (t : Tr)
  | slow (n : Nat) (t : Tr)
  | shift (a b : Nat) (t : Tr)
  | rev (t : Tr)
  | every (n : Nat) (t u : Tr)
def words : List (List Nat) := [[97], [98], [99], [108, 111, 110, 103, 119, 111, 114, 100]]
mutual
/-- the law's value -/
def Tr.d : Tr → D
  | .word w => .tup [.str [119, 111, 114, 100], .str w, .lst []]
  | .rest => .tup [.str [114, 101, 115, 116], .int 0, .lst []]
  | .row ts => .tup [.str [114, 111, 119], .int 0, .lst (Tr.dL ts)]
  | .lay ts => .tup [.str [108, 97, 121, 101, 114, 115], .int 0, .lst (Tr.dL ts)]
  | .turn ts => .tup [.str [116, 117, 114, 110, 115], .int 0, .lst (Tr.dL ts)]
  | .fast n t => .tup [.str [102, 97, 115, 116], .int n, .lst [t.d]]
  | .slow n t => .tup [.str [115, 108, 111, 119], .int n, .lst [t.d]]
  | .shift a b t => .tup [.str [115, 104, 105, 102, 116], .tup [.int a, .int b], .lst [t.d]]
  | .rev t => .tup [.str [114, 101, 118], .int 0, .lst [t.d]]
  | .every n t u => .tup [.str [101, 118, 101, 114, 121], .int n, .lst [t.d, u.d]]
def Tr.dL : List Tr → List D
  | [] => []
  | t :: ts => t.d :: Tr.dL ts
end
mutual
/-- drawn: at most so deep; small numbers -/
def Tr.wf : Nat → Tr → Prop
  | _, .word w => w ∈ words
  | _, .rest => True
  | 0, _ => False
  | n + 1, .row ts => 1 ≤ ts.length ∧ ts.length ≤ 5 ∧ Tr.wfL n ts
  | n + 1, .lay ts => 1 ≤ ts.length ∧ ts.length ≤ 5 ∧ Tr.wfL n ts
  | n + 1, .turn ts => 1 ≤ ts.length ∧ ts.length ≤ 5 ∧ Tr.wfL n ts
  | n + 1, .fast m t => 1 ≤ m ∧ m ≤ 6 ∧ Tr.wf n t
  | n + 1, .slow m t => 1 ≤ m ∧ m ≤ 6 ∧ Tr.wf n t
  | n + 1, .shift a b t => a < b ∧ b ≤ 60 ∧ Nat.gcd a b = 1 ∧ Tr.wf n t
  | n + 1, .rev t => Tr.wf n t
  | n + 1, .every m t u => 1 ≤ m ∧ m ≤ 3 ∧ Tr.wf n t ∧ Tr.wf n u
def Tr.wfL : Nat → List Tr → Prop
  | _, [] => True
  | n, t :: ts => Tr.wf n t ∧ Tr.wfL n ts
end
def Rnd.ok (s : Rnd) : Prop := 0 ≤ s.a ∧ s.a < 2147483647
theorem next_ok' {s : Rnd} {n : Int} (h : s.ok) : (s.next n).ok := next_ok h
section
variable {P : Prog} {M : Mem} {l : Nat}
/-- one draw, in the memory that holds the source at l -/
theorem draw {k : Nat} (h : P.fn 28 = some Bd.f28) (hl : l < M.length) {s : Rnd} {n : Int} (ok : s.ok) (hn : 0 < n) (hs : n.natAbs.log2 < 9000) :
    (P.cn (runF P (k + 1))).call 28 [.obj l, .int n] (M.set l (.lst s.d)) = .ok (.int (s.out n)) (M.set l (.lst (s.next n).d)) := by
  have q := below_run h (k := k) (M := M.set l (.lst s.d)) (s := s) (n := n) (List.getElem?_set_self hl) hn hs ok
  rw [List.set_set] at q
  exact q
/-- many trees -/
theorem trees {C : Cn} {t : Tg} {c e : Ex} {r : Env} {n : Nat} (f : ∀ (x : D) (s : Rnd), s.ok → ∃ (t' : Tr) (s' : Rnd), Tr.wf n t' ∧ s'.ok ∧ itemR C t c e r x (M.set l (.lst s.d)) = .ok (some t'.d) (M.set l (.lst s'.d))) :
    ∀ (xs : List D) (s : Rnd) (acc : List D), s.ok → acc.length + xs.length ≤ top → ∃ (ts : List Tr) (s' : Rnd), ts.length = xs.length ∧ Tr.wfL n ts ∧ s'.ok ∧
      foldC (itemR C t c e r) xs (M.set l (.lst s.d)) acc = .ok (acc ++ Tr.dL ts) (M.set l (.lst s'.d))
  | [], s, acc, ok, _ => ⟨[], s, rfl, trivial, ok, by simp [foldC, Tr.dL]⟩
  | x :: xs, s, acc, ok, hl => by
    obtain ⟨t1, s1, w1, ok1, e1⟩ := f x s ok
    obtain ⟨ts, s2, h1, h2, h3, h4⟩ := trees f xs s1 (acc ++ [t1.d]) ok1 (by simp at hl ⊢; omega)
    refine ⟨t1 :: ts, s2, by simp [h1], ⟨w1, h2⟩, h3, ?_⟩
    simp only [foldC, e1]
    rw [if_pos (show Nat.blt acc.length top = true from Nat.ble_eq_true_of_le (by simp at hl; omega)), h4]
    simp [Tr.dL]
end
end Cy
end

section
set_option linter.all false
set_option maxRecDepth 100000
/-! Plain: more rules, folds over trees. -/
namespace Cy
theorem tt0 : Nat.ble 0 top = true := by decide
theorem tt1 : Nat.ble 1 top = true := by decide
theorem tt2 : Nat.ble 2 top = true := by decide
theorem tt3 : Nat.ble 3 top = true := by decide
theorem tt4 : Nat.ble 4 top = true := by decide
theorem tt5 : Nat.ble 5 top = true := by decide
theorem tt6 : Nat.ble 6 top = true := by decide
section
variable {C : Cn} {r : Env} {M : Mem} {a b c d e es o it : Ex} {f k v : Nat} {l : Bool} {x y : D} {s t s' : List Nat}
theorem q_ch3 {p q u : COp} : evE C (.ch3 p q u a b c d) r M = match evE C a r M with
    | .ok x M => (match evE C b r M with
      | .ok y M => (match cop p x y M with
        | some true => (match evE C c r M with
          | .ok z M => (match cop q y z M with
            | some true => (match evE C d r M with
              | .ok w M => (match cop u z w M with
                | some k => .ok (.bl k) M
                | none => .bad)
              | .exc e M => .exc e M
              | .bad => .bad)
            | some false => .ok (.bl false) M
            | none => .bad)
          | .exc e M => .exc e M
          | .bad => .bad)
        | some false => .ok (.bl false) M
        | none => .bad)
      | .exc e M => .exc e M
      | .bad => .bad)
    | .exc e M => .exc e M
    | .bad => .bad := by
  show (evE C a r M).bind _ = _
  generalize evE C a r M = w
  cases w with
  | ok x1 M1 =>
    dsimp only [Res.bind]
    generalize evE C b r M1 = w
    cases w with
    | ok y1 M2 =>
      dsimp only
      cases cop p x1 y1 M2 with
      | none => rfl
      | some v =>
        cases v with
        | false => rfl
        | true =>
          dsimp only
          generalize evE C c r M2 = w
          cases w with
          | ok z1 M3 =>
            dsimp only
            cases cop q y1 z1 M3 with
            | none => rfl
            | some v =>
              cases v with
              | false => rfl
              | true =>
                dsimp only
                generalize evE C d r M3 = w
                cases w <;> rfl
          | _ => rfl
    | _ => rfl
  | _ => rfl
variable {h g : Ex}
theorem q_tup0 : evE C (.tup .nil) r M = .ok (.tup []) M := rfl
theorem q_tup1 : evE C (.tup (.cons a .nil)) r M = match evE C a r M with | .ok x0 M => .ok (.tup [x0]) M | .exc e M => .exc e M | .bad => .bad := by
  rw [q_tup]
  simp only [q_cons, q_nil]
  generalize evE C a r M = w
  cases w with
  | ok x0 M1 =>
    dsimp only
    rfl
  | _ => rfl
theorem q_tup2 : evE C (.tup (.cons a (.cons b .nil))) r M = match evE C a r M with | .ok x0 M => (match evE C b r M with | .ok x1 M => .ok (.tup [x0, x1]) M | .exc e M => .exc e M | .bad => .bad) | .exc e M => .exc e M | .bad => .bad := by
  rw [q_tup]
  simp only [q_cons, q_nil]
  generalize evE C a r M = w
  cases w with
  | ok x0 M1 =>
    dsimp only
    generalize evE C b r M1 = w
    cases w with
    | ok x1 M2 =>
      dsimp only
      rfl
    | _ => rfl
  | _ => rfl
theorem q_tup3 : evE C (.tup (.cons a (.cons b (.cons c .nil)))) r M = match evE C a r M with | .ok x0 M => (match evE C b r M with | .ok x1 M => (match evE C c r M with | .ok x2 M => .ok (.tup [x0, x1, x2]) M | .exc e M => .exc e M | .bad => .bad) | .exc e M => .exc e M | .bad => .bad) | .exc e M => .exc e M | .bad => .bad := by
  rw [q_tup]
  simp only [q_cons, q_nil]
  generalize evE C a r M = w
  cases w with
  | ok x0 M1 =>
    dsimp only
    generalize evE C b r M1 = w
    cases w with
    | ok x1 M2 =>
      dsimp only
      generalize evE C c r M2 = w
      cases w with
      | ok x2 M3 =>
        dsimp only
        rfl
      | _ => rfl
    | _ => rfl
  | _ => rfl
theorem q_tup4 : evE C (.tup (.cons a (.cons b (.cons c (.cons d .nil))))) r M = match evE C a r M with | .ok x0 M => (match evE C b r M with | .ok x1 M => (match evE C c r M with | .ok x2 M => (match evE C d r M with | .ok x3 M => .ok (.tup [x0, x1, x2, x3]) M | .exc e M => .exc e M | .bad => .bad) | .exc e M => .exc e M | .bad => .bad) | .exc e M => .exc e M | .bad => .bad) | .exc e M => .exc e M | .bad => .bad := by
  rw [q_tup]
  simp only [q_cons, q_nil]
  generalize evE C a r M = w
  cases w with
  | ok x0 M1 =>
    dsimp only
    generalize evE C b r M1 = w
    cases w with
    | ok x1 M2 =>
      dsimp only
      generalize evE C c r M2 = w
      cases w with
      | ok x2 M3 =>
        dsimp only
        generalize evE C d r M3 = w
        cases w with
        | ok x3 M4 =>
          dsimp only
          rfl
        | _ => rfl
      | _ => rfl
    | _ => rfl
  | _ => rfl
theorem q_lst0 : evE C (.lst l .nil) r M = mkL l [] M := rfl
theorem q_lst1 : evE C (.lst l (.cons a .nil)) r M = match evE C a r M with | .ok x0 M => mkL l [x0] M | .exc e M => .exc e M | .bad => .bad := by
  rw [q_lst]
  simp only [q_cons, q_nil]
  generalize evE C a r M = w
  cases w with
  | ok x0 M1 =>
    dsimp only
    rfl
  | _ => rfl
theorem q_lst2 : evE C (.lst l (.cons a (.cons b .nil))) r M = match evE C a r M with | .ok x0 M => (match evE C b r M with | .ok x1 M => mkL l [x0, x1] M | .exc e M => .exc e M | .bad => .bad) | .exc e M => .exc e M | .bad => .bad := by
  rw [q_lst]
  simp only [q_cons, q_nil]
  generalize evE C a r M = w
  cases w with
  | ok x0 M1 =>
    dsimp only
    generalize evE C b r M1 = w
    cases w with
    | ok x1 M2 =>
      dsimp only
      rfl
    | _ => rfl
  | _ => rfl
theorem q_lst3 : evE C (.lst l (.cons a (.cons b (.cons c .nil)))) r M = match evE C a r M with | .ok x0 M => (match evE C b r M with | .ok x1 M => (match evE C c r M with | .ok x2 M => mkL l [x0, x1, x2] M | .exc e M => .exc e M | .bad => .bad) | .exc e M => .exc e M | .bad => .bad) | .exc e M => .exc e M | .bad => .bad := by
  rw [q_lst]
  simp only [q_cons, q_nil]
  generalize evE C a r M = w
  cases w with
  | ok x0 M1 =>
    dsimp only
    generalize evE C b r M1 = w
    cases w with
    | ok x1 M2 =>
      dsimp only
      generalize evE C c r M2 = w
      cases w with
      | ok x2 M3 =>
        dsimp only
        rfl
      | _ => rfl
    | _ => rfl
  | _ => rfl
theorem q_lst4 : evE C (.lst l (.cons a (.cons b (.cons c (.cons d .nil))))) r M = match evE C a r M with | .ok x0 M => (match evE C b r M with | .ok x1 M => (match evE C c r M with | .ok x2 M => (match evE C d r M with | .ok x3 M => mkL l [x0, x1, x2, x3] M | .exc e M => .exc e M | .bad => .bad) | .exc e M => .exc e M | .bad => .bad) | .exc e M => .exc e M | .bad => .bad) | .exc e M => .exc e M | .bad => .bad := by
  rw [q_lst]
  simp only [q_cons, q_nil]
  generalize evE C a r M = w
  cases w with
  | ok x0 M1 =>
    dsimp only
    generalize evE C b r M1 = w
    cases w with
    | ok x1 M2 =>
      dsimp only
      generalize evE C c r M2 = w
      cases w with
      | ok x2 M3 =>
        dsimp only
        generalize evE C d r M3 = w
        cases w with
        | ok x3 M4 =>
          dsimp only
          rfl
        | _ => rfl
      | _ => rfl
    | _ => rfl
  | _ => rfl
theorem q_lst5 : evE C (.lst l (.cons a (.cons b (.cons c (.cons d (.cons e .nil)))))) r M = match evE C a r M with | .ok x0 M => (match evE C b r M with | .ok x1 M => (match evE C c r M with | .ok x2 M => (match evE C d r M with | .ok x3 M => (match evE C e r M with | .ok x4 M => mkL l [x0, x1, x2, x3, x4] M | .exc e M => .exc e M | .bad => .bad) | .exc e M => .exc e M | .bad => .bad) | .exc e M => .exc e M | .bad => .bad) | .exc e M => .exc e M | .bad => .bad) | .exc e M => .exc e M | .bad => .bad := by
  rw [q_lst]
  simp only [q_cons, q_nil]
  generalize evE C a r M = w
  cases w with
  | ok x0 M1 =>
    dsimp only
    generalize evE C b r M1 = w
    cases w with
    | ok x1 M2 =>
      dsimp only
      generalize evE C c r M2 = w
      cases w with
      | ok x2 M3 =>
        dsimp only
        generalize evE C d r M3 = w
        cases w with
        | ok x3 M4 =>
          dsimp only
          generalize evE C e r M4 = w
          cases w with
          | ok x4 M5 =>
            dsimp only
            rfl
          | _ => rfl
        | _ => rfl
      | _ => rfl
    | _ => rfl
  | _ => rfl
theorem q_lst6 : evE C (.lst l (.cons a (.cons b (.cons c (.cons d (.cons e (.cons h .nil))))))) r M = match evE C a r M with | .ok x0 M => (match evE C b r M with | .ok x1 M => (match evE C c r M with | .ok x2 M => (match evE C d r M with | .ok x3 M => (match evE C e r M with | .ok x4 M => (match evE C h r M with | .ok x5 M => mkL l [x0, x1, x2, x3, x4, x5] M | .exc e M => .exc e M | .bad => .bad) | .exc e M => .exc e M | .bad => .bad) | .exc e M => .exc e M | .bad => .bad) | .exc e M => .exc e M | .bad => .bad) | .exc e M => .exc e M | .bad => .bad) | .exc e M => .exc e M | .bad => .bad := by
  rw [q_lst]
  simp only [q_cons, q_nil]
  generalize evE C a r M = w
  cases w with
  | ok x0 M1 =>
    dsimp only
    generalize evE C b r M1 = w
    cases w with
    | ok x1 M2 =>
      dsimp only
      generalize evE C c r M2 = w
      cases w with
      | ok x2 M3 =>
        dsimp only
        generalize evE C d r M3 = w
        cases w with
        | ok x3 M4 =>
          dsimp only
          generalize evE C e r M4 = w
          cases w with
          | ok x4 M5 =>
            dsimp only
            generalize evE C h r M5 = w
            cases w with
            | ok x5 M6 =>
              dsimp only
              rfl
            | _ => rfl
          | _ => rfl
        | _ => rfl
      | _ => rfl
    | _ => rfl
  | _ => rfl
theorem cop_isN : cop .is x .non M = some (isNon x) := rfl
theorem bop_catE : bop .add (.str s) (.str t) M = if Nat.ble (s.length + t.length) top = true then .ok (.str (s ++ t)) M else .bad := rfl
theorem intsOf_map {α : Type} {g : α → Int} : ∀ ts : List α, intsOf (ts.map fun t => D.int (g t)) = some (ts.map g)
  | [] => rfl
  | t :: ts => by simp only [List.map_cons, intsOf, intsOf_map ts]; rfl
theorem strsOf_map {α : Type} {g : α → List Nat} : ∀ ts : List α, strsOf (ts.map fun t => D.str (g t)) = some (ts.map g)
  | [] => rfl
  | t :: ts => by simp only [List.map_cons, strsOf, strsOf_map ts]; rfl
theorem bi_sum_ {α : Type} {g : α → Int} {ts : List α} : bi .sum [.lst (ts.map fun t => D.int (g t))] M = .ok (.int (ts.map g).sum) M := by
  show (match intsOf (ts.map fun t => D.int (g t)) with
      | some l => Res.ok (D.int l.sum) M
      | none => .bad) = _
  rw [intsOf_map]
theorem bi_max_ {α : Type} {g : α → Int} {ts : List α} {m : Int} (h : maxL (ts.map g) = some m) : bi .max [.lst (ts.map fun t => D.int (g t))] M = .ok (.int m) M := by
  show (match intsOf (ts.map fun t => D.int (g t)) with
      | some l => match maxL l with
        | some i => Res.ok (D.int i) M
        | none => .bad
      | none => .bad) = _
  rw [intsOf_map]
  simp only [h]
theorem bm_join {α : Type} {g : α → List Nat} {ts : List α} (h : ((ts.map g).map List.length).sum + ts.length * s.length ≤ top) : bm .join (.str s) [.lst (ts.map fun t => D.str (g t))] M = .ok (.str (joinT s (ts.map g))) M := by
  show (match strsOf (ts.map fun t => D.str (g t)) with
      | some l => if Nat.ble ((l.map List.length).sum + l.length * s.length) top then Res.ok (D.str (joinT s l)) M else .bad
      | none => .bad) = _
  rw [strsOf_map]
  simp only [List.length_map]
  rw [if_pos (Nat.ble_eq_true_of_le h)]
theorem bmOk_join : bmOk .join (.str s) M = true := rfl
theorem pcall_run {P : Prog} {args : List D} (h : runF P k f args [] = .ok x []) (hp : D.pure x = true) : pcall (P.cn (runF P k)) f args M = .ok x M := by
  unfold pcall
  rw [show (P.cn (runF P k)).call f args [] = _ from h]
  simp only [hp, if_true]
theorem comp_pcall {α : Type} {p g : α → D} {ts : List α} {src : Src} (hv : v < r.length) (hg : C.has f = true) (h : ∀ t ∈ ts, pcall C f [p t] M = .ok (g t) M ∧ D.pure (p t) = true)
    (he : evI C it r M = .ok src M) (hs : src.list = some (ts.map p)) (hl : ts.length ≤ top) : evE C (.comp false (.nm v) it (.cB true) (.pcall f (.cons (.var v) .nil))) r M = .ok (.lst (ts.map g)) M := by
  have e : ∀ (us : List α) (acc : List D), (∀ t ∈ us, t ∈ ts) → acc.length + us.length ≤ top → foldC (itemR C (.nm v) (.cB true) (.pcall f (.cons (.var v) .nil)) r) (us.map p) M acc = .ok (acc ++ us.map g) M := by
    intro us
    induction us with
    | nil => intro acc _ _; simp [foldC]
    | cons t us ih =>
      intro acc h1 h2
      obtain ⟨e1, e2⟩ := h t (h1 t List.mem_cons_self)
      have i1 : itemR C (.nm v) (.cB true) (.pcall f (.cons (.var v) .nil)) r (p t) M = .ok (some (g t)) M := by
        have gv : ((wipeR r [v]).set v (some (p t)))[v]? = some (some (p t)) := by
          apply List.getElem?_set_self
          show v < (List.set (wipeR r []) v none).length
          simpa [wipeR] using hv
        unfold itemR
        simp only [Tg.to, Tg.slots, q_cB, q_pcall hg, q_cons, q_nil, q_var, gv, D.pureL, e2, Bool.and_true, if_true, e1]
      simp only [List.map_cons, foldC, i1]
      rw [if_pos (show Nat.blt acc.length top = true from Nat.ble_eq_true_of_le (by simp at h2; omega)), ih _ (fun t ht => h1 t (List.mem_cons_of_mem _ ht)) (by simp at h2 ⊢; omega)]
      simp
  have := q_comp (l := false) (t := .nm v) (c := .cB true) (e := .pcall f (.cons (.var v) .nil)) he hs (e ts [] (fun _ h => h) (by simpa using hl))
  simpa [mkL] using this
/-- the beginning of every fold over a tree -/
theorem tree_head {rest : St} {cmp : Ex} {p q w z : D} {u : List D} {M' : Mem} {tl : Env} (hc : evE C cmp (some (.tup [p, q, w]) :: none :: some p :: some q :: some w :: tl) M = .ok z M') :
    exS C (.seq (.set (.tp [2, 3, 4]) (.var 0)) (.seq (.set (.nm 1) cmp) rest)) (some (.tup [p, q, w]) :: none :: none :: none :: none :: tl) M = exS C rest (some (.tup [p, q, w]) :: some z :: some p :: some q :: some w :: tl) M' := by
  rw [q_seq]
  have e1 : exS C (.set (.tp [2, 3, 4]) (.var 0)) (some (.tup [p, q, w]) :: none :: none :: none :: none :: tl) M = .nx (some (.tup [p, q, w]) :: none :: some p :: some q :: some w :: tl) M := rfl
  rw [e1]
  show exS C (.seq (.set (.nm 1) cmp) rest) _ M = _
  rw [q_seq, q_set, hc]
  rfl
end
/-! big steps -/
section
variable {C : Cn} {r : Env} {M M1 M2 M3 : Mem} {a b c d e : Ex} {s u v : St} {x y z : D} {p q : List Nat}
theorem xs_iff (h : evE C c r M = .ok (.bl false) M) : exS C (.seq (.ite c s .nop) u) r M = exS C u r M := by
  rw [q_seq, q_if, h]
  rfl
theorem xs_ret (h : evE C e r M = .ok x M1) : exS C (.seq (.ret e) s) r M = .rt x M1 := by
  rw [q_seq, q_ret, h]
theorem xs_ift (h : evE C c r M = .ok (.bl true) M) (k : evE C e r M = .ok x M1) : exS C (.seq (.ite c (.seq (.ret e) s) u) v) r M = .rt x M1 := by
  rw [q_seq, q_if, h]
  dsimp only
  rw [xs_ret k]
theorem xs_set {i : Nat} (h : evE C e r M = .ok x M1) : exS C (.seq (.set (.nm i) e) s) r M = exS C s (r.set i (some x)) M1 := by
  rw [q_seq, q_set, h]
  rfl
theorem xe_iteT (h : evE C c r M = .ok (.bl true) M) (k : evE C a r M = .ok x M1) : evE C (.ite c a b) r M = .ok x M1 := by
  rw [q_ite, h]
  exact k
theorem xe_iteF (h : evE C c r M = .ok (.bl false) M) (k : evE C b r M = .ok x M1) : evE C (.ite c a b) r M = .ok x M1 := by
  rw [q_ite, h]
  exact k
theorem xe_gl {i : Nat} (h : C.con i = some x) : evE C (.gl i) r M = .ok x M := by
  rw [q_gl, h]
theorem xe_cmp {o : COp} {k : Bool} (h1 : evE C a r M = .ok x M1) (h2 : evE C b r M1 = .ok y M2) (h3 : cop o x y M2 = some k) : evE C (.cmp o a b) r M = .ok (.bl k) M2 := by
  rw [q_cmp, h1]
  dsimp only
  rw [h2]
  dsimp only
  rw [h3]
theorem xe_idx (h1 : evE C a r M = .ok x M1) (h2 : evE C b r M1 = .ok y M2) (h3 : index (view M2 x) y = some z) : evE C (.idx a b) r M = .ok z M2 := by
  rw [q_idx, h1]
  dsimp only
  rw [h2]
  dsimp only
  rw [h3]
theorem xe_bin {o : BOp} (h1 : evE C a r M = .ok x M1) (h2 : evE C b r M1 = .ok y M2) (h3 : bop o x y M2 = .ok z M3) : evE C (.bin o a b) r M = .ok z M3 := by
  rw [q_bin, h1]
  dsimp only
  rw [h2]
  exact h3
theorem xe_var {i : Nat} (h : r[i]? = some (some x)) : evE C (.var i) r M = .ok x M := by
  rw [q_var, h]
theorem xe_tup1 (h1 : evE C a r M = .ok x M1) : evE C (.tup (.cons a .nil)) r M = .ok (.tup [x]) M1 := by
  rw [q_tup1, h1]
theorem xe_tup2 (h1 : evE C a r M = .ok x M1) (h2 : evE C b r M1 = .ok y M2) : evE C (.tup (.cons a (.cons b .nil))) r M = .ok (.tup [x, y]) M2 := by
  rw [q_tup2, h1]
  dsimp only
  rw [h2]
theorem xe_tup3 (h1 : evE C a r M = .ok x M1) (h2 : evE C b r M1 = .ok y M2) (h3 : evE C c r M2 = .ok z M3) : evE C (.tup (.cons a (.cons b (.cons c .nil)))) r M = .ok (.tup [x, y, z]) M3 := by
  rw [q_tup3, h1]
  dsimp only
  rw [h2]
  dsimp only
  rw [h3]
theorem xe_call1 {f : Nat} (g : C.has f = true) (h1 : evE C a r M = .ok x M1) (h2 : C.call f [x] M1 = .ok y M2) : evE C (.call f (.cons a .nil)) r M = .ok y M2 := by
  rw [q_call g, q_cons, h1]
  dsimp only
  rw [q_nil]
  exact h2
theorem xe_pcall1 {f : Nat} (g : C.has f = true) (h1 : evE C a r M = .ok x M1) (hp : D.pure x = true) (h2 : pcall C f [x] M1 = .ok y M1) : evE C (.pcall f (.cons a .nil)) r M = .ok y M1 := by
  rw [q_pcall g, q_cons, h1]
  dsimp only
  rw [q_nil]
  dsimp only
  rw [if_pos (show D.pureL [x] = true by simp only [D.pureL, hp, Bool.and_true])]
  exact h2
theorem xe_pcall2 {f : Nat} (g : C.has f = true) (h1 : evE C a r M = .ok x M1) (h2 : evE C b r M1 = .ok y M2) (hp : D.pure x = true) (hq : D.pure y = true) (h3 : pcall C f [x, y] M2 = .ok z M2) : evE C (.pcall f (.cons a (.cons b .nil))) r M = .ok z M2 := by
  rw [q_pcall g, q_cons, h1]
  dsimp only
  rw [q_cons, h2]
  dsimp only
  rw [q_nil]
  dsimp only
  rw [if_pos (show D.pureL [x, y] = true by simp only [D.pureL, hp, hq, Bool.and_true])]
  exact h3
theorem xs_ift2 (h : evE C c r M = .ok (.bl true) M) (k : exS C s r M = .rt x M1) : exS C (.seq (.ite c s u) v) r M = .rt x M1 := by
  rw [q_seq, q_if, h]
  dsimp only
  rw [k]
theorem xe_cat (h1 : evE C a r M = .ok (.str p) M1) (h2 : evE C b r M1 = .ok (.str q) M2) (hl : p.length + q.length ≤ top) : evE C (.bin .add a b) r M = .ok (.str (p ++ q)) M2 := by
  rw [q_bin, h1]
  dsimp only
  rw [h2]
  dsimp only
  rw [bop_cat hl]
theorem xe_str {n : Nat} (h : evE C a r M = .ok (.int n) M1) (hn : n ≤ 1000000) : evE C (.bi .str (.cons a .nil)) r M = .ok (.str (numT n)) M1 := by
  rw [q_bi, q_cons, h]
  dsimp only
  rw [q_nil]
  show (if (decide (0 ≤ (n : Int)) && Nat.blt (n : Int).toNat.log2 200) = true then Res.ok (D.str (numT (n : Int).toNat)) M1 else .bad) = _
  rw [decide_eq_true (by omega), Int.toNat_natCast, show Nat.blt n.log2 200 = true from Nat.ble_eq_true_of_le (by
    have : n.log2 ≤ n.log2 := Nat.le_refl _
    by_cases z : n = 0
    · subst z; decide
    · have : n.log2 < 20 := (Nat.log2_lt z).mpr (by omega)
      omega)]
  rfl
theorem xe_join {α : Type} {g : α → List Nat} {ts : List α} (h1 : evE C a r M = .ok (.str p) M) (h2 : evE C b r M = .ok (.lst (ts.map fun t => D.str (g t))) M) (h : ((ts.map g).map List.length).sum + ts.length * p.length ≤ top) :
    evE C (.bm .join a (.cons b .nil)) r M = .ok (.str (joinT p (ts.map g))) M := by
  rw [q_bm, h1]
  dsimp only
  rw [if_pos bmOk_join, q_cons, h2]
  dsimp only
  rw [q_nil]
  exact bm_join h
end
theorem mem1 {α : Type} {p : α → Prop} {a : α} (h : p a) : ∀ x ∈ [a], p x := by
  intro x hx
  simp only [List.mem_cons, List.not_mem_nil, or_false] at hx
  subst hx; exact h
theorem mem2 {α : Type} {p : α → Prop} {a b : α} (h : p a) (k : p b) : ∀ x ∈ [a, b], p x := by
  intro x hx
  simp only [List.mem_cons, List.not_mem_nil, or_false] at hx
  rcases hx with e | e
  · subst e; exact h
  · subst e; exact k
/-! trees as values -/
theorem dL_map : ∀ ts : List Tr, Tr.dL ts = ts.map Tr.d
  | [] => rfl
  | t :: ts => by rw [Tr.dL, dL_map ts]; rfl
theorem wfL_iff {n : Nat} : ∀ {ts : List Tr}, Tr.wfL n ts ↔ ∀ t ∈ ts, Tr.wf n t
  | [] => by simp [Tr.wfL]
  | t :: ts => by simp [Tr.wfL, wfL_iff (ts := ts)]
theorem pureL_iff : ∀ {xs : List D}, D.pureL xs = true ↔ ∀ x ∈ xs, D.pure x = true
  | [] => by simp [D.pureL]
  | x :: xs => by simp [D.pureL, pureL_iff (xs := xs)]
/-- a tree of at most so many levels, with numbers from 1 on and full groups -/
def Tr.ok : Nat → Tr → Prop
  | _, .word _ => True
  | _, .rest => True
  | 0, _ => False
  | n + 1, .row ts => ts ≠ [] ∧ ts.length ≤ 1000000 ∧ ∀ t ∈ ts, Tr.ok n t
  | n + 1, .lay ts => ts ≠ [] ∧ ts.length ≤ 1000000 ∧ ∀ t ∈ ts, Tr.ok n t
  | n + 1, .turn ts => ts ≠ [] ∧ ts.length ≤ 1000000 ∧ ∀ t ∈ ts, Tr.ok n t
  | n + 1, .fast m t => (1 ≤ m ∧ m ≤ 1000) ∧ Tr.ok n t
  | n + 1, .slow m t => (1 ≤ m ∧ m ≤ 1000) ∧ Tr.ok n t
  | n + 1, .shift a b t => (a < b ∧ b ≤ 1000) ∧ Tr.ok n t
  | n + 1, .rev t => Tr.ok n t
  | n + 1, .every m t u => (1 ≤ m ∧ m ≤ 1000) ∧ Tr.ok n t ∧ Tr.ok n u
theorem wf_ok : ∀ {n : Nat} {t : Tr}, Tr.wf n t → Tr.ok n t := by
  intro n
  induction n with
  | zero => intro t h; cases t <;> first | trivial | exact h.elim
  | succ n ih =>
    intro t h
    cases t with
    | word w => trivial
    | rest => trivial
    | row ts => exact ⟨by intro e; subst e; exact absurd h.1 (by simp), by have := h.2.1; omega, fun t ht => ih (wfL_iff.mp h.2.2 t ht)⟩
    | lay ts => exact ⟨by intro e; subst e; exact absurd h.1 (by simp), by have := h.2.1; omega, fun t ht => ih (wfL_iff.mp h.2.2 t ht)⟩
    | turn ts => exact ⟨by intro e; subst e; exact absurd h.1 (by simp), by have := h.2.1; omega, fun t ht => ih (wfL_iff.mp h.2.2 t ht)⟩
    | fast m t => exact ⟨⟨h.1, by have := h.2.1; omega⟩, ih h.2.2⟩
    | slow m t => exact ⟨⟨h.1, by have := h.2.1; omega⟩, ih h.2.2⟩
    | shift a b t => exact ⟨⟨h.1, by have := h.2.1; omega⟩, ih h.2.2.2⟩
    | rev t => exact ih (t := t) h
    | every m t u => exact ⟨⟨h.1, by have := h.2.1; omega⟩, ih h.2.2.1, ih h.2.2.2⟩
theorem ok_pure : ∀ {n : Nat} {t : Tr}, Tr.ok n t → D.pure t.d = true := by
  intro n
  induction n with
  | zero => intro t h; cases t <;> first | rfl | exact h.elim
  | succ n ih =>
    intro t h
    have L : ∀ ts : List Tr, (∀ t ∈ ts, Tr.ok n t) → D.pureL (Tr.dL ts) = true := fun ts hs => by
      rw [dL_map, pureL_iff]
      intro x hx
      obtain ⟨t, ht, e⟩ := List.mem_map.mp hx
      exact e ▸ ih (hs t ht)
    cases t with
    | word w => rfl
    | rest => rfl
    | row ts => simp only [Tr.d, D.pure, D.pureL, L ts h.2.2, Bool.and_true]
    | lay ts => simp only [Tr.d, D.pure, D.pureL, L ts h.2.2, Bool.and_true]
    | turn ts => simp only [Tr.d, D.pure, D.pureL, L ts h.2.2, Bool.and_true]
    | fast m t => simp only [Tr.d, D.pure, D.pureL, ih h.2, Bool.and_true]
    | slow m t => simp only [Tr.d, D.pure, D.pureL, ih h.2, Bool.and_true]
    | shift a b t => simp only [Tr.d, D.pure, D.pureL, ih h.2, Bool.and_true]
    | rev t => simp only [Tr.d, D.pure, D.pureL, ih (t := t) h, Bool.and_true]
    | every m t u => simp only [Tr.d, D.pure, D.pureL, ih h.2.1, ih h.2.2, Bool.and_true]
end Cy
end

section
set_option linter.all false
set_option maxRecDepth 100000
set_option maxHeartbeats 4000000
/-! Plain: _law_tree draws trees. -/
namespace Cy
theorem atI_of {α : Type} {xs : List α} {i : Int} (h0 : 0 ≤ i) (h1 : i < xs.length) : ∃ x ∈ xs, atI xs i = some x := by
  obtain ⟨n, e⟩ := Int.eq_ofNat_of_zero_le h0
  subst e
  rw [atI_nat]
  have h2 : n < xs.length := by omega
  exact ⟨xs[n], List.getElem_mem h2, List.getElem?_eq_getElem h2⟩
section
variable {P : Prog} {M : Mem} {l : Nat}
structure TreeP (P : Prog) : Prop where
  below : P.fn 28 = some Bd.f28
  common : P.fn 29 = some Bd.f29
  ratio : P.fn 30 = some Bd.f30
  tree : P.fn 31 = some Bd.f31
  g28 : P.glob 28 = true
  g29 : P.glob 29 = true
  g30 : P.glob 30 = true
  g31 : P.glob 31 = true
/-- a group of trees -/
theorem tree_group {C : Cn} {n : Nat} {q lim : Int} {nm : List Nat} {b : Bool} {s1 : Rnd} (g28 : C.has 28 = true) (g31 : C.has 31 = true)
    (C28 : ∀ (s : Rnd) (n' : Int), s.ok → 0 < n' → n'.natAbs.log2 < 9000 → C.call 28 [.obj l, .int n'] (M.set l (.lst s.d)) = .ok (.int (s.out n')) (M.set l (.lst (s.next n').d)))
    (C31 : ∀ s : Rnd, s.ok → ∃ (t : Tr) (s' : Rnd), Tr.wf n t ∧ s'.ok ∧ C.call 31 [.obj l, .int n] (M.set l (.lst s.d)) = .ok t.d (M.set l (.lst s'.d)))
    (ok1 : s1.ok) (hn : atI [D.str [114, 111, 119], .str [114, 111, 119], .str [108, 97, 121, 101, 114, 115], .str [116, 117, 114, 110, 115], .str [116, 117, 114, 110, 115]] (q - 3) = some (.str nm))
    (hb : ∀ M, cop .eq (.str nm) (.str [116, 117, 114, 110, 115]) M = some b) :
    ∃ (ts : List Tr) (s' : Rnd), 1 ≤ ts.length ∧ ts.length ≤ 5 ∧ Tr.wfL n ts ∧ s'.ok ∧
      exS C (.seq (.set (.nm 3) (.idx (.lst false (.cons (.cS [114, 111, 119]) (.cons (.cS [114, 111, 119]) (.cons (.cS [108, 97, 121, 101, 114, 115]) (.cons (.cS [116, 117, 114, 110, 115]) (.cons (.cS [116, 117, 114, 110, 115]) .nil)))))) (.bin .sub (.var 2) (.cI 3))))
      (.seq (.set (.nm 4) (.bin .add (.cI 1) (.call 28 (.cons (.var 0) (.cons (.ite (.cmp .eq (.var 3) (.cS [116, 117, 114, 110, 115])) (.cI 5) (.cI 3)) .nil)))))
      (.seq (.ret (.tup (.cons (.var 3) (.cons (.cI 0) (.cons (.comp false (.nm 7) (.rng1 (.var 4)) (.cB true) (.call 31 (.cons (.var 0) (.cons (.bin .sub (.var 1) (.cI 1)) .nil)))) .nil)))))
      .nop))) [some (.obj l), some (.int ((n + 1 : Nat) : Int)), some (.int q), none, none, none, none, none] (M.set l (.lst s1.d)) = .rt (.tup [.str nm, .int 0, .lst (Tr.dL ts)]) (M.set l (.lst s'.d)) := by
  have pred : ((n + 1 : Nat) : Int) - 1 = (n : Int) := by omega
  have tt2 : Nat.ble 2 top = true := by decide
  have tt3 : Nat.ble 3 top = true := by decide
  have tt5 : Nat.ble 5 top = true := by decide
  obtain ⟨lim, hlim, l5⟩ : ∃ lim : Int, (if b then (5 : Int) else 3) = lim ∧ (lim = 5 ∨ lim = 3) := ⟨_, rfl, by cases b <;> simp⟩
  have dl := C28 s1 lim ok1 (by omega) (by rcases l5 with e | e <;> subst e <;> decide)
  have ol := out_ok (s := s1) (n := lim) (by omega)
  have ok2 := next_ok' (n := lim) ok1
  generalize s1.out lim = m at dl ol
  generalize s1.next lim = s2 at dl ok2
  obtain ⟨m', em⟩ := Int.eq_ofNat_of_zero_le (show 0 ≤ 1 + m by omega)
  have sm : small (m' : Int) = true := by
    unfold small
    rw [decide_eq_true (by omega), decide_eq_true (by omega)]; rfl
  have ev : evI C (.rng1 (.var 4)) [some (.obj l), some (.int ((n + 1 : Nat) : Int)), some (.int q), some (.str nm), some (.int m'), none, none, none] (M.set l (.lst s2.d)) = .ok (.fix 0 m') (M.set l (.lst s2.d)) := by
    simp only [q_rng1, q_var, List.getElem?_cons_succ, List.getElem?_cons_zero, sm, ↓reduceIte]
    rfl
  obtain ⟨ts, s3, h1, wts, ok3, ets⟩ := trees (M := M) (l := l) (C := C) (t := .nm 7) (c := .cB true) (e := .call 31 (.cons (.var 0) (.cons (.bin .sub (.var 1) (.cI 1)) .nil)))
    (r := [some (.obj l), some (.int ((n + 1 : Nat) : Int)), some (.int q), some (.str nm), some (.int m'), none, none, none]) (n := n) (fun x s ok => by
      obtain ⟨t, s', wt, ok', et⟩ := C31 s ok
      refine ⟨t, s', wt, ok', ?_⟩
      unfold itemR
      simp only [Tg.slots, wipeR, q_var, q_cI, q_call g31, q_cons, q_nil, q_bin, bop_sub, Tg.to, List.set_cons_succ, List.set_cons_zero, List.getElem?_cons_succ, List.getElem?_cons_zero, q_cB, pred, et]) ((List.range m').map fun i : Nat => D.int (0 + i)) s2 [] ok2 (by unfold top; simp; omega)
  have hc := q_comp (C := C) (l := false) (t := .nm 7) (c := .cB true) (e := .call 31 (.cons (.var 0) (.cons (.bin .sub (.var 1) (.cI 1)) .nil))) ev rfl ets
  refine ⟨ts, s3, by rw [h1]; simp; omega, by rw [h1]; simp; omega, wts, ok3, ?_⟩
  generalize Ex.comp false (.nm 7) (.rng1 (.var 4)) (.cB true) (.call 31 (.cons (.var 0) (.cons (.bin .sub (.var 1) (.cI 1)) .nil))) = X at hc ⊢
  have e1 : exS C (.set (.nm 3) (.idx (.lst false (.cons (.cS [114, 111, 119]) (.cons (.cS [114, 111, 119]) (.cons (.cS [108, 97, 121, 101, 114, 115]) (.cons (.cS [116, 117, 114, 110, 115]) (.cons (.cS [116, 117, 114, 110, 115]) .nil)))))) (.bin .sub (.var 2) (.cI 3)))) [some (.obj l), some (.int ((n + 1 : Nat) : Int)), some (.int q), none, none, none, none, none] (M.set l (.lst s1.d)) =
      .nx [some (.obj l), some (.int ((n + 1 : Nat) : Int)), some (.int q), some (.str nm), none, none, none, none] (M.set l (.lst s1.d)) := by
    simp only [q_set, q_idx, q_lst0, q_lst1, q_lst2, q_lst3, q_lst4, q_lst5, q_lst6, q_cons, q_nil, q_cS, q_bin, q_var, q_cI, bop_sub, mkL, view_lst_, index_lst, hn, tt5, Tg.to, List.length_cons, List.length_nil, Nat.reduceAdd, ↓reduceIte, List.set_cons_succ, List.set_cons_zero, List.getElem?_cons_succ, List.getElem?_cons_zero]
  have e2 : exS C (.set (.nm 4) (.bin .add (.cI 1) (.call 28 (.cons (.var 0) (.cons (.ite (.cmp .eq (.var 3) (.cS [116, 117, 114, 110, 115])) (.cI 5) (.cI 3)) .nil))))) [some (.obj l), some (.int ((n + 1 : Nat) : Int)), some (.int q), some (.str nm), none, none, none, none] (M.set l (.lst s1.d)) =
      .nx [some (.obj l), some (.int ((n + 1 : Nat) : Int)), some (.int q), some (.str nm), some (.int m'), none, none, none] (M.set l (.lst s2.d)) := by
    have ei : evE C (.ite (.cmp .eq (.var 3) (.cS [116, 117, 114, 110, 115])) (.cI 5) (.cI 3)) [some (.obj l), some (.int ((n + 1 : Nat) : Int)), some (.int q), some (.str nm), none, none, none, none] (M.set l (.lst s1.d)) = .ok (.int lim) (M.set l (.lst s1.d)) := by
      rw [← hlim]
      cases b <;> simp only [q_ite, q_cmp, q_var, q_cS, q_cI, hb, List.getElem?_cons_succ, List.getElem?_cons_zero] <;> rfl
    simp only [q_set, q_bin, q_cI, q_call g28, q_cons, q_nil, q_var, ei, dl, bop_add, em, Tg.to, List.set_cons_succ, List.set_cons_zero, List.getElem?_cons_succ, List.getElem?_cons_zero]
  rw [q_seq, e1]
  show exS C (.seq _ _) _ _ = _
  rw [q_seq, e2]
  show exS C (.seq _ _) _ _ = _
  rw [q_seq, q_ret, xe_tup3 rfl rfl hc]
  rfl
theorem tree_run (H : TreeP P) (hl : l < M.length) : ∀ (depth k : Nat) (s : Rnd), s.ok → ∃ (t : Tr) (s' : Rnd), Tr.wf depth t ∧ s'.ok ∧
    runF P (k + depth + 3) 31 [.obj l, .int depth] (M.set l (.lst s.d)) = .ok t.d (M.set l (.lst s'.d)) := by
  intro depth
  induction depth with
  | zero =>
    intro k s ok
    rw [show k + 0 + 3 = (k + 2) + 1 from rfl, run_eq H.tree rfl]
    show ∃ (t : Tr) (s' : Rnd), _ ∧ _ ∧ (exS _ Bd.b31 [some (.obj l), some (.int 0), none, none, none, none, none, none] _).res = _
    have C28 := fun (s : Rnd) (n : Int) (ok : s.ok) (hn : 0 < n) (hs : n.natAbs.log2 < 9000) => draw (k := k + 1) H.below hl ok hn hs
    have g28 : (P.cn (runF P (k + 2))).has 28 = true := H.g28
    generalize P.cn (runF P (k + 2)) = C at C28 g28
    have d3 := C28 s 3 ok (by decide) (by decide)
    have o3 := out_ok (s := s) (n := 3) (by decide)
    have ok1 := next_ok' (n := 3) ok
    generalize s.out 3 = q at d3 o3
    generalize s.next 3 = s1 at d3 ok1
    unfold Bd.b31
    by_cases h2 : q < 2
    · have d4 := C28 s1 4 ok1 (by decide) (by decide)
      have o4 := out_ok (s := s1) (n := 4) (by decide)
      have ok2 := next_ok' (n := 4) ok1
      generalize s1.out 4 = p at d4 o4
      generalize s1.next 4 = s2 at d4 ok2
      obtain ⟨w, hw, hp⟩ := atI_of (xs := [D.str [97], .str [98], .str [99], .str [108, 111, 110, 103, 119, 111, 114, 100]]) (i := p) o4.1 (by simpa using o4.2)
      have hw2 : ∃ z ∈ words, w = .str z := by
        simp only [List.mem_cons, List.not_mem_nil, or_false] at hw
        rcases hw with e | e | e | e <;> exact ⟨_, by simp [words], e⟩
      obtain ⟨z, hz, e⟩ := hw2
      subst e
      refine ⟨.word z, s2, hz, ok2, ?_⟩
      have t1 : Nat.ble 4 top = true := by decide
      have t2 : Nat.ble 0 top = true := by decide
      have t3 : Nat.ble 3 top = true := by decide
      simp only [q_seq, q_set, q_ite, q_cmp, q_var, q_cI, cop_gt, cop_lt, cop_eqI, q_call g28, q_cons, q_nil, q_if, q_ret, q_tup0, q_tup1, q_tup2, q_tup3, q_tup4, q_cS, q_idx, q_lst0, q_lst1, q_lst2, q_lst3, q_lst4, q_lst5, q_lst6, d3, d4, mkL, view_lst_, index_lst, hp, Tg.to, Oc.res, h2, t1, t2, t3, List.length_cons, List.length_nil,
        List.set_cons_succ, List.set_cons_zero, List.getElem?_cons_succ, List.getElem?_cons_zero, ↓reduceIte, Nat.reduceAdd, Int.lt_irrefl, decide_true, decide_false]
      rfl
    · have e2 : q = 2 := by omega
      subst e2
      refine ⟨.rest, s1, trivial, ok1, ?_⟩
      have t2 : Nat.ble 0 top = true := by decide
      have t3 : Nat.ble 3 top = true := by decide
      simp only [q_seq, q_set, q_ite, q_cmp, q_var, q_cI, cop_gt, cop_lt, cop_eqI, q_call g28, q_cons, q_nil, q_if, q_ret, q_tup0, q_tup1, q_tup2, q_tup3, q_tup4, q_cS, q_nop, q_lst0, q_lst1, q_lst2, q_lst3, q_lst4, q_lst5, q_lst6, d3, mkL, Tg.to, Oc.res, h2, t2, t3, List.length_cons, List.length_nil,
        List.set_cons_succ, List.set_cons_zero, List.getElem?_cons_succ, List.getElem?_cons_zero, ↓reduceIte, Nat.reduceAdd, Int.lt_irrefl, decide_true, decide_false, beq_self_eq_true]
      rfl
  | succ n ih =>
    intro k s ok
    rw [show k + (n + 1) + 3 = (k + n + 3) + 1 by omega, run_eq H.tree rfl]
    show ∃ (t : Tr) (s' : Rnd), _ ∧ _ ∧ (exS _ Bd.b31 [some (.obj l), some (.int ((n + 1 : Nat) : Int)), none, none, none, none, none, none] _).res = _
    have C28 := fun (s : Rnd) (n' : Int) (ok : s.ok) (hn : 0 < n') (hs : n'.natAbs.log2 < 9000) => draw (k := k + n + 2) H.below hl ok hn hs
    have C31 : ∀ s : Rnd, s.ok → ∃ (t : Tr) (s' : Rnd), Tr.wf n t ∧ s'.ok ∧ (P.cn (runF P (k + n + 3))).call 31 [.obj l, .int n] (M.set l (.lst s.d)) = .ok t.d (M.set l (.lst s'.d)) := fun s ok => ih k s ok
    have C30 : ∀ (a b : Nat) (M : Mem), 0 < b → b < 2 ^ 100 → pcall (P.cn (runF P (k + n + 3))) 30 [.int a, .int b] M = .ok (.tup [.int (a / Nat.gcd a b : Nat), .int (b / Nat.gcd a b : Nat)]) M := fun a b M h1 h2 => by
      have q := ratio_run (k := k + n + 1) (M := []) (a := a) (show P.fn 29 = some Bd.f6 from H.common) H.g29 H.ratio h1 (Nat.lt_trans h2 (Nat.pow_lt_pow_right (by decide) (by decide)))
      unfold pcall
      rw [show (P.cn (runF P (k + n + 3))).call 30 [.int a, .int b] [] = _ from q]
      rfl
    have g28 : (P.cn (runF P (k + n + 3))).has 28 = true := H.g28
    have g30 : (P.cn (runF P (k + n + 3))).has 30 = true := H.g30
    have g31 : (P.cn (runF P (k + n + 3))).has 31 = true := H.g31
    generalize P.cn (runF P (k + n + 3)) = C at C28 C31 C30 g28 g30 g31
    have pos : decide ((0 : Int) < ((n + 1 : Nat) : Int)) = true := decide_eq_true (by omega)
    have pred : ((n + 1 : Nat) : Int) - 1 = (n : Int) := by omega
    have tt0 : Nat.ble 0 top = true := by decide
    have tt1 : Nat.ble 1 top = true := by decide
    have tt2 : Nat.ble 2 top = true := by decide
    have tt3 : Nat.ble 3 top = true := by decide
    have tt4 : Nat.ble 4 top = true := by decide
    have tt5 : Nat.ble 5 top = true := by decide
    have tt6 : Nat.ble 6 top = true := by decide
    have d12 := C28 s 12 ok (by decide) (by decide)
    have o12 := out_ok (s := s) (n := 12) (by decide)
    have ok1 := next_ok' (n := 12) ok
    generalize s.out 12 = q at d12 o12
    generalize s.next 12 = s1 at d12 ok1
    unfold Bd.b31
    by_cases h2 : q < 2
    · have d4 := C28 s1 4 ok1 (by decide) (by decide)
      have o4 := out_ok (s := s1) (n := 4) (by decide)
      have ok2 := next_ok' (n := 4) ok1
      generalize s1.out 4 = p at d4 o4
      generalize s1.next 4 = s2 at d4 ok2
      obtain ⟨w, hw, hp⟩ := atI_of (xs := [D.str [97], .str [98], .str [99], .str [108, 111, 110, 103, 119, 111, 114, 100]]) (i := p) o4.1 (by simpa using o4.2)
      have hw2 : ∃ z ∈ words, w = .str z := by
        simp only [List.mem_cons, List.not_mem_nil, or_false] at hw
        rcases hw with e | e | e | e <;> exact ⟨_, by simp [words], e⟩
      obtain ⟨z, hz, e⟩ := hw2
      subst e
      refine ⟨.word z, s2, hz, ok2, ?_⟩
      simp only [q_seq, q_set, q_ite, q_cmp, q_var, q_cI, cop_gt, cop_lt, cop_eqI, cop_eqS, q_call g28, q_call g31, q_pcall g30, q_cons, q_nil, q_if, q_ret, q_tup0, q_tup1, q_tup2, q_tup3, q_tup4, q_cS, q_nop, q_idx, q_lst0, q_lst1, q_lst2, q_lst3, q_lst4, q_lst5, q_lst6, q_bin, bop_add, bop_sub, mkL, view_lst_, index_lst, Tg.to, Oc.res, tt0, tt1, tt2, tt3, tt4, tt5, tt6, List.length_cons, List.length_nil,
        List.set_cons_succ, List.set_cons_zero, List.getElem?_cons_succ, List.getElem?_cons_zero, ↓reduceIte, Nat.reduceAdd, Int.lt_irrefl, decide_true, decide_false, beq_self_eq_true, pos, d12, d4, hp, h2]
      rfl
    by_cases e2 : q = 2
    · subst e2
      refine ⟨.rest, s1, trivial, ok1, ?_⟩
      simp only [q_seq, q_set, q_ite, q_cmp, q_var, q_cI, cop_gt, cop_lt, cop_eqI, cop_eqS, q_call g28, q_call g31, q_pcall g30, q_cons, q_nil, q_if, q_ret, q_tup0, q_tup1, q_tup2, q_tup3, q_tup4, q_cS, q_nop, q_idx, q_lst0, q_lst1, q_lst2, q_lst3, q_lst4, q_lst5, q_lst6, q_bin, bop_add, bop_sub, mkL, view_lst_, index_lst, Tg.to, Oc.res, tt0, tt1, tt2, tt3, tt4, tt5, tt6, List.length_cons, List.length_nil,
        List.set_cons_succ, List.set_cons_zero, List.getElem?_cons_succ, List.getElem?_cons_zero, ↓reduceIte, Nat.reduceAdd, Int.lt_irrefl, decide_true, decide_false, beq_self_eq_true, pos, d12, h2]
      rfl
    have b2 : (q == 2) = false := by simpa using e2
    by_cases h8 : q < 8
    · obtain ⟨nm, b, K, hn, hb, hK⟩ : ∃ (nm : List Nat) (b : Bool) (K : List Tr → Tr), atI [D.str [114, 111, 119], .str [114, 111, 119], .str [108, 97, 121, 101, 114, 115], .str [116, 117, 114, 110, 115], .str [116, 117, 114, 110, 115]] (q - 3) = some (.str nm) ∧
          (∀ M, cop .eq (.str nm) (.str [116, 117, 114, 110, 115]) M = some b) ∧ (∀ ts, (K ts).d = .tup [.str nm, .int 0, .lst (Tr.dL ts)] ∧ (1 ≤ ts.length → ts.length ≤ 5 → Tr.wfL n ts → Tr.wf (n + 1) (K ts))) := by
        have : q = 3 ∨ q = 4 ∨ q = 5 ∨ q = 6 ∨ q = 7 := by omega
        rcases this with e | e | e | e | e <;> subst e
        · exact ⟨[114, 111, 119], false, .row, rfl, fun _ => rfl, fun ts => ⟨rfl, fun a b c => ⟨a, b, c⟩⟩⟩
        · exact ⟨[114, 111, 119], false, .row, rfl, fun _ => rfl, fun ts => ⟨rfl, fun a b c => ⟨a, b, c⟩⟩⟩
        · exact ⟨[108, 97, 121, 101, 114, 115], false, .lay, rfl, fun _ => rfl, fun ts => ⟨rfl, fun a b c => ⟨a, b, c⟩⟩⟩
        · exact ⟨[116, 117, 114, 110, 115], true, .turn, rfl, fun _ => rfl, fun ts => ⟨rfl, fun a b c => ⟨a, b, c⟩⟩⟩
        · exact ⟨[116, 117, 114, 110, 115], true, .turn, rfl, fun _ => rfl, fun ts => ⟨rfl, fun a b c => ⟨a, b, c⟩⟩⟩
      obtain ⟨ts, s', l1, l2, wts, ok', eg⟩ := tree_group (lim := 0) g28 g31 C28 C31 ok1 hn hb
      refine ⟨K ts, s', (hK ts).2 l1 l2 wts, ok', ?_⟩
      rw [(hK ts).1]
      clear hn hb hK
      generalize (St.seq (.set (.nm 3) (.idx (.lst false (.cons (.cS [114, 111, 119]) (.cons (.cS [114, 111, 119]) (.cons (.cS [108, 97, 121, 101, 114, 115]) (.cons (.cS [116, 117, 114, 110, 115]) (.cons (.cS [116, 117, 114, 110, 115]) .nil)))))) (.bin .sub (.var 2) (.cI 3))))
      (.seq (.set (.nm 4) (.bin .add (.cI 1) (.call 28 (.cons (.var 0) (.cons (.ite (.cmp .eq (.var 3) (.cS [116, 117, 114, 110, 115])) (.cI 5) (.cI 3)) .nil)))))
      (.seq (.ret (.tup (.cons (.var 3) (.cons (.cI 0) (.cons (.comp false (.nm 7) (.rng1 (.var 4)) (.cB true) (.call 31 (.cons (.var 0) (.cons (.bin .sub (.var 1) (.cI 1)) .nil)))) .nil)))))
      .nop))) = G at eg ⊢
      simp only [q_seq, q_set, q_ite, q_cmp, q_var, q_cI, cop_gt, cop_lt, cop_eqI, q_call g28, q_cons, q_nil, q_if, q_nop, Tg.to, List.set_cons_succ, List.set_cons_zero, List.getElem?_cons_succ, List.getElem?_cons_zero, decide_true, decide_false, pos, d12, h2, b2, h8, eg, Oc.res]
    by_cases e8 : q = 8
    · subst e8
      have d2 := C28 s1 2 ok1 (by decide) (by decide)
      have o2 := out_ok (s := s1) (n := 2) (by decide)
      have ok2 := next_ok' (n := 2) ok1
      generalize s1.out 2 = p at d2 o2
      generalize s1.next 2 = s2 at d2 ok2
      have hp : ∃ lim : Int, (lim = 3 ∨ lim = 6) ∧ atI [D.int 3, .int 6] p = some (.int lim) := by
        have : p = 0 ∨ p = 1 := by omega
        rcases this with e | e
        · subst e; exact ⟨3, .inl rfl, rfl⟩
        · subst e; exact ⟨6, .inr rfl, rfl⟩
      obtain ⟨lim, hlim, hp⟩ := hp
      have dl := C28 s2 lim ok2 (by omega) (by rcases hlim with e | e <;> subst e <;> decide)
      have ol := out_ok (s := s2) (n := lim) (by omega)
      have ok3 := next_ok' (n := lim) ok2
      generalize s2.out lim = m at dl ol
      generalize s2.next lim = s3 at dl ok3
      have dk := C28 s3 2 ok3 (by decide) (by decide)
      have ok' := out_ok (s := s3) (n := 2) (by decide)
      have ok4 := next_ok' (n := 2) ok3
      generalize s3.out 2 = f at dk ok'
      generalize s3.next 2 = s4 at dk ok4
      obtain ⟨t, s5, wt, ok5, et⟩ := C31 s4 ok4
      obtain ⟨m', em⟩ := Int.eq_ofNat_of_zero_le (show 0 ≤ 1 + m by omega)
      have : f = 0 ∨ f = 1 := by omega
      rcases this with e | e
      · subst e
        refine ⟨.fast m' t, s5, ⟨by omega, by omega, wt⟩, ok5, ?_⟩
        simp only [q_seq, q_set, q_ite, q_cmp, q_var, q_cI, cop_gt, cop_lt, cop_eqI, cop_eqS, q_call g28, q_call g31, q_pcall g30, q_cons, q_nil, q_if, q_ret, q_tup0, q_tup1, q_tup2, q_tup3, q_tup4, q_cS, q_nop, q_idx, q_lst0, q_lst1, q_lst2, q_lst3, q_lst4, q_lst5, q_lst6, q_bin, bop_add, bop_sub, mkL, view_lst_, index_lst, Tg.to, Oc.res, tt0, tt1, tt2, tt3, tt4, tt5, tt6, List.length_cons, List.length_nil,
        List.set_cons_succ, List.set_cons_zero, List.getElem?_cons_succ, List.getElem?_cons_zero, ↓reduceIte, Nat.reduceAdd, Int.lt_irrefl, decide_true, decide_false, beq_self_eq_true, pos, pred, d12, h2, b2, h8, d2, hp, dl, dk, et, em, atI_0]
        rfl
      · subst e
        refine ⟨.slow m' t, s5, ⟨by omega, by omega, wt⟩, ok5, ?_⟩
        simp only [q_seq, q_set, q_ite, q_cmp, q_var, q_cI, cop_gt, cop_lt, cop_eqI, cop_eqS, q_call g28, q_call g31, q_pcall g30, q_cons, q_nil, q_if, q_ret, q_tup0, q_tup1, q_tup2, q_tup3, q_tup4, q_cS, q_nop, q_idx, q_lst0, q_lst1, q_lst2, q_lst3, q_lst4, q_lst5, q_lst6, q_bin, bop_add, bop_sub, mkL, view_lst_, index_lst, Tg.to, Oc.res, tt0, tt1, tt2, tt3, tt4, tt5, tt6, List.length_cons, List.length_nil,
        List.set_cons_succ, List.set_cons_zero, List.getElem?_cons_succ, List.getElem?_cons_zero, ↓reduceIte, Nat.reduceAdd, Int.lt_irrefl, decide_true, decide_false, beq_self_eq_true, pos, pred, d12, h2, b2, h8, d2, hp, dl, dk, et, em, atI_1]
        rfl
    have b8 : (q == 8) = false := by simpa using e8
    by_cases e9 : q = 9
    · subst e9
      have d6 := C28 s1 6 ok1 (by decide) (by decide)
      have o6 := out_ok (s := s1) (n := 6) (by decide)
      have ok2 := next_ok' (n := 6) ok1
      generalize s1.out 6 = p at d6 o6
      generalize s1.next 6 = s2 at d6 ok2
      have hp : ∃ b : Nat, 0 < b ∧ b ≤ 60 ∧ atI [D.int 1, .int 2, .int 3, .int 4, .int 8, .int 60] p = some (.int b) := by
        have : p = 0 ∨ p = 1 ∨ p = 2 ∨ p = 3 ∨ p = 4 ∨ p = 5 := by omega
        rcases this with e | e | e | e | e | e <;> subst e
        · exact ⟨1, by decide, by decide, rfl⟩
        · exact ⟨2, by decide, by decide, rfl⟩
        · exact ⟨3, by decide, by decide, rfl⟩
        · exact ⟨4, by decide, by decide, rfl⟩
        · exact ⟨8, by decide, by decide, rfl⟩
        · exact ⟨60, by decide, by decide, rfl⟩
      obtain ⟨b, pb, lb, hp⟩ := hp
      have db := C28 s2 b ok2 (by omega) (by
        rw [Int.natAbs_natCast]
        have : b.log2 ≤ b := Nat.log2_le_self b
        omega)
      have ob := out_ok (s := s2) (n := (b : Int)) (by omega)
      have ok3 := next_ok' (n := (b : Int)) ok2
      generalize s2.out b = m at db ob
      generalize s2.next b = s3 at db ok3
      obtain ⟨a, ea⟩ := Int.eq_ofNat_of_zero_le ob.1
      subst ea
      obtain ⟨t, s5, wt, ok5, et⟩ := C31 s3 ok3
      have c30 := fun M => C30 a b M pb (Nat.lt_of_le_of_lt lb (by decide))
      have pg : 0 < Nat.gcd a b := Nat.gcd_pos_of_pos_right _ pb
      have alt : a < b := by omega
      refine ⟨.shift (a / Nat.gcd a b) (b / Nat.gcd a b) t, s5, ⟨?_, Nat.le_trans (Nat.div_le_self _ _) lb, ?_, wt⟩, ok5, ?_⟩
      · exact Nat.div_lt_div_of_lt_of_dvd (Nat.gcd_dvd_right a b) alt
      · exact Nat.gcd_div_gcd_div_gcd_of_pos_right pb
      have pu : D.pureL [.int (a : Int), .int (b : Int)] = true := rfl
      simp only [q_seq, q_set, q_ite, q_cmp, q_var, q_cI, cop_gt, cop_lt, cop_eqI, cop_eqS, q_call g28, q_call g31, q_pcall g30, q_cons, q_nil, q_if, q_ret, q_tup0, q_tup1, q_tup2, q_tup3, q_tup4, q_cS, q_nop, q_idx, q_lst0, q_lst1, q_lst2, q_lst3, q_lst4, q_lst5, q_lst6, q_bin, bop_add, bop_sub, mkL, view_lst_, index_lst, Tg.to, Oc.res, tt0, tt1, tt2, tt3, tt4, tt5, tt6, List.length_cons, List.length_nil,
        List.set_cons_succ, List.set_cons_zero, List.getElem?_cons_succ, List.getElem?_cons_zero, ↓reduceIte, Nat.reduceAdd, Int.lt_irrefl, decide_true, decide_false, beq_self_eq_true, pos, pred, d12, h2, b2, h8, b8, d6, hp, db, c30, pu, et]
      rfl
    have b9 : (q == 9) = false := by simpa using e9
    by_cases e10 : q = 10
    · subst e10
      obtain ⟨t, s5, wt, ok5, et⟩ := C31 s1 ok1
      refine ⟨.rev t, s5, wt, ok5, ?_⟩
      simp only [q_seq, q_set, q_ite, q_cmp, q_var, q_cI, cop_gt, cop_lt, cop_eqI, cop_eqS, q_call g28, q_call g31, q_pcall g30, q_cons, q_nil, q_if, q_ret, q_tup0, q_tup1, q_tup2, q_tup3, q_tup4, q_cS, q_nop, q_idx, q_lst0, q_lst1, q_lst2, q_lst3, q_lst4, q_lst5, q_lst6, q_bin, bop_add, bop_sub, mkL, view_lst_, index_lst, Tg.to, Oc.res, tt0, tt1, tt2, tt3, tt4, tt5, tt6, List.length_cons, List.length_nil,
        List.set_cons_succ, List.set_cons_zero, List.getElem?_cons_succ, List.getElem?_cons_zero, ↓reduceIte, Nat.reduceAdd, Int.lt_irrefl, decide_true, decide_false, beq_self_eq_true, pos, pred, d12, h2, b2, h8, b8, b9, et]
      rfl
    have b10 : (q == 10) = false := by simpa using e10
    have d3 := C28 s1 3 ok1 (by decide) (by decide)
    have o3 := out_ok (s := s1) (n := 3) (by decide)
    have ok2 := next_ok' (n := 3) ok1
    generalize s1.out 3 = m at d3 o3
    generalize s1.next 3 = s2 at d3 ok2
    obtain ⟨m', em⟩ := Int.eq_ofNat_of_zero_le (show 0 ≤ 1 + m by omega)
    obtain ⟨t, s3, wt, ok3, et⟩ := C31 s2 ok2
    obtain ⟨u, s4, wu, ok4, eu⟩ := C31 s3 ok3
    refine ⟨.every m' t u, s4, ⟨by omega, by omega, wt, wu⟩, ok4, ?_⟩
    simp only [q_seq, q_set, q_ite, q_cmp, q_var, q_cI, cop_gt, cop_lt, cop_eqI, cop_eqS, q_call g28, q_call g31, q_pcall g30, q_cons, q_nil, q_if, q_ret, q_tup0, q_tup1, q_tup2, q_tup3, q_tup4, q_cS, q_nop, q_idx, q_lst0, q_lst1, q_lst2, q_lst3, q_lst4, q_lst5, q_lst6, q_bin, bop_add, bop_sub, mkL, view_lst_, index_lst, Tg.to, Oc.res, tt0, tt1, tt2, tt3, tt4, tt5, tt6, List.length_cons, List.length_nil,
        List.set_cons_succ, List.set_cons_zero, List.getElem?_cons_succ, List.getElem?_cons_zero, ↓reduceIte, Nat.reduceAdd, Int.lt_irrefl, decide_true, decide_false, beq_self_eq_true, pos, pred, d12, h2, b2, h8, b8, b9, b10, d3, em, et, eu]
    rfl
end
end Cy
end

section
set_option linter.all false
set_option maxRecDepth 100000
set_option maxHeartbeats 4000000
set_option exponentiation.threshold 2000
/-! Plain: weight, units of a drawn tree. -/
namespace Cy
theorem wide_small {i : Int} (h1 : 0 ≤ i) (h2 : i < 2 ^ 1000) : wide i = true := by
  unfold wide
  refine Nat.ble_eq_true_of_le ?_
  show i.natAbs.log2 + 1 ≤ 400000
  by_cases z : i.natAbs = 0
  · rw [z]; decide
  · have : i.natAbs.log2 < 1000 := (Nat.log2_lt z).mpr (by
      have : ((2 ^ 1000 : Nat) : Int) = (2 : Int) ^ 1000 := by norm_cast
      omega)
    omega
mutual
def Tr.weight : Tr → Int
  | .word _ => 1
  | .rest => 1
  | .row ts => (Tr.weightL ts).sum
  | .lay ts => (Tr.weightL ts).sum
  | .turn ts => (maxL (Tr.weightL ts)).getD 0
  | .fast n t => t.weight * n
  | .slow _ t => t.weight
  | .shift _ _ t => t.weight
  | .rev t => t.weight
  | .every _ t u => (maxL [t.weight, u.weight]).getD 0
def Tr.weightL : List Tr → List Int
  | [] => []
  | t :: ts => t.weight :: Tr.weightL ts
end
theorem weightL_map : ∀ ts : List Tr, Tr.weightL ts = ts.map Tr.weight
  | [] => rfl
  | t :: ts => by rw [Tr.weightL, weightL_map ts]; rfl
theorem maxL_some : ∀ {xs : List Int}, xs ≠ [] → ∃ m, maxL xs = some m ∧ m ∈ xs ∧ ∀ x ∈ xs, x ≤ m
  | [], h => absurd rfl h
  | [x], _ => ⟨x, rfl, by simp, by simp⟩
  | x :: y :: r, _ => by
    obtain ⟨m, e, hm, hx⟩ := maxL_some (xs := y :: r) (by simp)
    refine ⟨if x < m then m else x, ?_, ?_, ?_⟩
    · simp only [maxL, e, Option.map_some]
    · split
      · exact List.mem_cons_of_mem _ hm
      · exact List.mem_cons_self
    · intro z hz
      cases List.mem_cons.mp hz with
      | inl h => subst h; split <;> omega
      | inr h => have := hx z h; split <;> omega
theorem sum_mem : ∀ {xs : List Int}, (∀ x ∈ xs, 1 ≤ x) → 0 ≤ xs.sum ∧ ∀ x ∈ xs, x ≤ xs.sum
  | [], _ => by simp
  | y :: xs, h => by
    obtain ⟨h1, h2⟩ := sum_mem (xs := xs) fun x hx => h x (List.mem_cons_of_mem _ hx)
    have hy := h y List.mem_cons_self
    rw [List.sum_cons]
    refine ⟨by omega, fun x hx => ?_⟩
    cases List.mem_cons.mp hx with
    | inl e => subst e; omega
    | inr e => have := h2 x e; omega
theorem weight_pos : ∀ {n : Nat} {t : Tr}, Tr.ok n t → 1 ≤ t.weight := by
  intro n
  induction n with
  | zero => intro t h; cases t <;> first | (simp [Tr.weight]; done) | exact h.elim
  | succ n ih =>
    intro t h
    have S : ∀ ts : List Tr, ts ≠ [] → (∀ t ∈ ts, Tr.ok n t) → 1 ≤ (Tr.weightL ts).sum := fun ts ne hs => by
      rw [weightL_map]
      obtain ⟨t, r, e⟩ := List.exists_cons_of_ne_nil ne
      have h1 : ∀ x ∈ ts.map Tr.weight, 1 ≤ x := fun x hx => by
        obtain ⟨t, ht, e⟩ := List.mem_map.mp hx
        exact e ▸ ih (hs t ht)
      have h2 := (sum_mem h1).2 t.weight (by rw [e]; simp)
      have h3 := ih (hs t (by rw [e]; simp))
      omega
    have X : ∀ ts : List Tr, ts ≠ [] → (∀ t ∈ ts, Tr.ok n t) → 1 ≤ (maxL (Tr.weightL ts)).getD 0 := fun ts ne hs => by
      rw [weightL_map]
      obtain ⟨m, e, hm, _⟩ := maxL_some (xs := ts.map Tr.weight) (by simpa using ne)
      rw [e]
      obtain ⟨t, ht, e⟩ := List.mem_map.mp hm
      exact e ▸ ih (hs t ht)
    cases t with
    | word w => simp [Tr.weight]
    | rest => simp [Tr.weight]
    | row ts => exact S ts h.1 h.2.2
    | lay ts => exact S ts h.1 h.2.2
    | turn ts => exact X ts h.1 h.2.2
    | fast m t =>
      show 1 ≤ t.weight * m
      have h1 := ih h.2
      have h2 : (1 : Int) ≤ m := by have := h.1; omega
      have : 1 * 1 ≤ t.weight * (m : Int) := Int.mul_le_mul h1 h2 (by decide) (by omega)
      omega
    | slow m t => exact ih (t := t) h.2
    | shift a b t => exact ih (t := t) h.2
    | rev t => exact ih (t := t) h
    | every m t u => exact X [t, u] (by simp) (mem2 (h.2.1) (h.2.2))
theorem weight_run {P : Prog} (h : P.fn 32 = some Bd.f32) (g : P.glob 32 = true) : ∀ (n k : Nat) (t : Tr) (M : Mem), Tr.ok n t → t.weight < 2 ^ 1000 → runF P (k + n + 1) 32 [t.d] M = .ok (.int t.weight) M := by
  intro n
  induction n with
  | zero =>
    intro k t M ok hw
    rw [run_eq h rfl]
    cases t <;> first | rfl | exact ok.elim
  | succ n ih =>
    intro k t M ok hw
    rw [run_eq h rfl]
    have C32 : ∀ t M, Tr.ok n t → t.weight < 2 ^ 1000 → pcall (P.cn (runF P (k + (n + 1)))) 32 [t.d] M = .ok (.int t.weight) M := fun t M ok hw => pcall_run (ih k t [] ok hw) rfl
    have g32 : (P.cn (runF P (k + (n + 1)))).has 32 = true := g
    generalize P.cn (runF P (k + (n + 1))) = C at C32 g32
    show (exS C Bd.b32 [some t.d, none, none, none, none, none] M).res = _
    have W : ∀ (p q : D) (ts : List Tr), ts.length ≤ 1000000 → (∀ t ∈ ts, Tr.ok n t ∧ t.weight < 2 ^ 1000) →
        evE C (.comp false (.nm 5) (.src (.var 4)) (.cB true) (.pcall 32 (.cons (.var 5) .nil))) [some (.tup [p, q, .lst (Tr.dL ts)]), none, some p, some q, some (.lst (Tr.dL ts)), none] M = .ok (.lst (ts.map fun t => .int t.weight)) M := fun p q ts hl hs => by
      refine comp_pcall (p := Tr.d) (src := .live (.lst (Tr.dL ts))) (by simp) g32 (fun t ht => ⟨C32 t M (hs t ht).1 (hs t ht).2, ok_pure (hs t ht).1⟩) ?_ ?_ (by unfold top; omega)
      · rfl
      · rw [dL_map]; rfl
    have S : ∀ (p : List Nat) (q : D) (ts : List Tr), (∀ M, cop .inn (.str p) (.lst [.str [119, 111, 114, 100], .str [114, 101, 115, 116]]) M = some false) → (∀ M, cop .inn (.str p) (.lst [.str [114, 111, 119], .str [108, 97, 121, 101, 114, 115]]) M = some true) →
        ts.length ≤ 1000000 → (∀ t ∈ ts, Tr.ok n t ∧ t.weight < 2 ^ 1000) →
        (exS C Bd.b32 [some (.tup [.str p, q, .lst (Tr.dL ts)]), none, none, none, none, none] M).res = .ok (.int (Tr.weightL ts).sum) M := fun p q ts i1 i2 hl hs => by
      unfold Bd.b32
      rw [tree_head (u := []) (W (.str p) q ts hl hs)]
      simp only [q_seq, q_set, q_ite, q_cmp, q_ch2, q_ch3, q_var, q_cI, q_cS, q_cB, q_cN, q_gl, q_cons, q_nil, q_if, q_ret, q_tup0, q_tup1, q_tup2, q_tup3, q_tup4, q_nop, q_idx, q_lst0, q_lst1, q_lst2, q_lst3, q_lst4, q_lst5, q_lst6, q_bin, q_bi, q_bm, q_and, q_or, q_not, q_exp, q_par, cop_gt, cop_lt, cop_le, cop_ge, cop_eqI, cop_neI, cop_eqS, cop_neS, cop_isN, bop_add, bop_sub, mkL, view_non, view_bl, view_int_, view_str_, view_tup_, view_lst_, index_lst, index_tup, atI_0, atI_1, atI_2, Tg.to, Oc.res, setAll, List.length_cons, List.length_nil, List.set_cons_succ, List.set_cons_zero, List.getElem?_cons_succ, List.getElem?_cons_zero, ↓reduceIte, Nat.reduceAdd, Nat.reduceBEq, List.cons_beq_cons, Bool.and_false, Bool.false_and, Bool.and_true, Bool.true_and, Bool.not_true, Bool.not_false, beq_self_eq_true, i1, i2, bi_sum_, weightL_map]
    have X : ∀ (p : List Nat) (q : D) (ts : List Tr), (∀ M, cop .inn (.str p) (.lst [.str [119, 111, 114, 100], .str [114, 101, 115, 116]]) M = some false) → (∀ M, cop .inn (.str p) (.lst [.str [114, 111, 119], .str [108, 97, 121, 101, 114, 115]]) M = some false) → (∀ M, cop .eq (.str p) (.str [102, 97, 115, 116]) M = some false) →
        ts ≠ [] → ts.length ≤ 1000000 → (∀ t ∈ ts, Tr.ok n t ∧ t.weight < 2 ^ 1000) →
        (exS C Bd.b32 [some (.tup [.str p, q, .lst (Tr.dL ts)]), none, none, none, none, none] M).res = .ok (.int ((maxL (Tr.weightL ts)).getD 0)) M := fun p q ts i1 i2 i3 ne hl hs => by
      obtain ⟨m, e, _⟩ := maxL_some (xs := ts.map Tr.weight) (by simpa using ne)
      unfold Bd.b32
      rw [tree_head (u := []) (W (.str p) q ts hl hs)]
      rw [weightL_map, e]
      have i4 := fun M => bi_max_ (M := M) e
      rw [q_seq, q_if, q_cmp, q_var]
      simp only [q_seq, q_if, q_ret, q_ite, q_cmp, q_var, q_lst, q_cons, q_nil, q_cS, q_nop, q_bi, mkL, List.length_cons, List.length_nil, Nat.reduceAdd, tt2, ↓reduceIte, List.getElem?_cons_succ, List.getElem?_cons_zero, Oc.res, Option.getD_some, i1, i2, i3, i4]
    have M1 : ∀ {ts : List Tr}, (∀ t ∈ ts, Tr.ok n t) → (Tr.weightL ts).sum < 2 ^ 1000 → ∀ t ∈ ts, Tr.ok n t ∧ t.weight < 2 ^ 1000 := fun {ts} h1 h2 t ht => ⟨h1 t ht, by
      rw [weightL_map] at h2
      have := (sum_mem (xs := ts.map Tr.weight) fun x hx => by
        obtain ⟨t, ht, e⟩ := List.mem_map.mp hx
        exact e ▸ weight_pos (h1 t ht)).2 t.weight (List.mem_map_of_mem ht)
      omega⟩
    have M2 : ∀ {ts : List Tr}, (∀ t ∈ ts, Tr.ok n t) → (maxL (Tr.weightL ts)).getD 0 < 2 ^ 1000 → ∀ t ∈ ts, Tr.ok n t ∧ t.weight < 2 ^ 1000 := fun {ts} h1 h2 t ht => ⟨h1 t ht, by
      rw [weightL_map] at h2
      obtain ⟨m, e, _, hx⟩ := maxL_some (xs := ts.map Tr.weight) (by intro q; rw [List.map_eq_nil_iff] at q; subst q; simp at ht)
      rw [e] at h2
      have := hx t.weight (List.mem_map_of_mem ht)
      have h2 : m < 2 ^ 1000 := h2
      omega⟩
    cases t with
    | word w => rfl
    | rest => rfl
    | row ts => exact S _ _ ts (fun _ => rfl) (fun _ => rfl) ok.2.1 (M1 ok.2.2 hw)
    | lay ts => exact S _ _ ts (fun _ => rfl) (fun _ => rfl) ok.2.1 (M1 ok.2.2 hw)
    | turn ts => exact X _ _ ts (fun _ => rfl) (fun _ => rfl) (fun _ => rfl) ok.1 ok.2.1 (M2 ok.2.2 hw)
    | fast m t =>
      have p1 := weight_pos ok.2
      have p2 : (1 : Int) ≤ m := by have := ok.1; omega
      have hw : t.weight * m < 2 ^ 1000 := hw
      have le1 : t.weight * 1 ≤ t.weight * (m : Int) := Int.mul_le_mul_of_nonneg_left p2 (by omega)
      have le2 : 1 * (m : Int) ≤ t.weight * (m : Int) := Int.mul_le_mul_of_nonneg_right p1 (by omega)
      have e1 := fun M => bop_mul (M := M) (wide_small (i := t.weight) (by omega) (by omega)) (wide_small (i := (m : Int)) (by omega) (by omega))
      have i1 : ∀ M, cop .inn (.str [102, 97, 115, 116]) (.lst [.str [119, 111, 114, 100], .str [114, 101, 115, 116]]) M = some false := fun _ => rfl
      have i2 : ∀ M, cop .inn (.str [102, 97, 115, 116]) (.lst [.str [114, 111, 119], .str [108, 97, 121, 101, 114, 115]]) M = some false := fun _ => rfl
      have w := W (.str [102, 97, 115, 116]) (.int m) [t] (by simp) (mem1 (⟨ok.2, by omega⟩))
      unfold Bd.b32
      show (exS C (.seq (.set (.tp [2, 3, 4]) (.var 0)) _) [some (.tup [.str [102, 97, 115, 116], .int m, .lst (Tr.dL [t])]), none, none, none, none, none] M).res = .ok (.int (t.weight * m)) M
      rw [tree_head (u := []) w]
      simp only [q_seq, q_set, q_ite, q_cmp, q_ch2, q_ch3, q_var, q_cI, q_cS, q_cB, q_cN, q_gl, q_cons, q_nil, q_if, q_ret, q_tup0, q_tup1, q_tup2, q_tup3, q_tup4, q_nop, q_idx, q_lst0, q_lst1, q_lst2, q_lst3, q_lst4, q_lst5, q_lst6, q_bin, q_bi, q_bm, q_and, q_or, q_not, q_exp, q_par, cop_gt, cop_lt, cop_le, cop_ge, cop_eqI, cop_neI, cop_eqS, cop_neS, cop_isN, bop_add, bop_sub, mkL, view_non, view_bl, view_int_, view_str_, view_tup_, view_lst_, index_lst, index_tup, atI_0, atI_1, atI_2, Tg.to, Oc.res, setAll, List.length_cons, List.length_nil, List.set_cons_succ, List.set_cons_zero, List.getElem?_cons_succ, List.getElem?_cons_zero, ↓reduceIte, Nat.reduceAdd, Nat.reduceBEq, List.cons_beq_cons, Bool.and_false, Bool.false_and, Bool.and_true, Bool.true_and, Bool.not_true, Bool.not_false, beq_self_eq_true, i1, i2, e1, List.map_cons, List.map_nil]
    | slow m t => exact X _ _ [t] (fun _ => rfl) (fun _ => rfl) (fun _ => rfl) (by simp) (by simp) (mem1 (⟨ok.2, hw⟩))
    | shift a b t => exact X _ _ [t] (fun _ => rfl) (fun _ => rfl) (fun _ => rfl) (by simp) (by simp) (mem1 (⟨ok.2, hw⟩))
    | rev t => exact X _ _ [t] (fun _ => rfl) (fun _ => rfl) (fun _ => rfl) (by simp) (by simp) (mem1 (⟨ok, hw⟩))
    | every m t u => exact X _ _ [t, u] (fun _ => rfl) (fun _ => rfl) (fun _ => rfl) (by simp) (by simp) (M2 (ts := [t, u]) (mem2 (ok.2.1) (ok.2.2)) hw)
end Cy
end

section
set_option linter.all false
set_option maxRecDepth 100000
set_option maxHeartbeats 4000000
set_option exponentiation.threshold 2000
/-! Plain: units of a tree: the law's, the program's. -/
namespace Cy
mutual
/-- the program's value -/
def Tr.p : Tr → D
  | .word w => .tup [.str [119, 111, 114, 100], .str w, .tup []]
  | .rest => .tup [.str [114, 101, 115, 116], .non, .tup []]
  | .row ts => .tup [.str [114, 111, 119], .non, .tup (Tr.pL ts)]
  | .lay ts => .tup [.str [108, 97, 121, 101, 114, 115], .non, .tup (Tr.pL ts)]
  | .turn ts => .tup [.str [116, 117, 114, 110, 115], .non, .tup (Tr.pL ts)]
  | .fast n t => .tup [.str [102, 97, 115, 116], .int n, .tup [t.p]]
  | .slow n t => .tup [.str [115, 108, 111, 119], .int n, .tup [t.p]]
  | .shift a b t => .tup [.str [108, 97, 116, 101], .tup [.int a, .int b], .tup [t.p]]
  | .rev t => .tup [.str [109, 105, 114, 114, 111, 114], .non, .tup [t.p]]
  | .every n t u => .tup [.str [101, 97, 99, 104], .int n, .tup [t.p, u.p]]
def Tr.pL : List Tr → List D
  | [] => []
  | t :: ts => t.p :: Tr.pL ts
end
theorem pL_map : ∀ ts : List Tr, Tr.pL ts = ts.map Tr.p
  | [] => rfl
  | t :: ts => by rw [Tr.pL, pL_map ts]; rfl
theorem ok_pureP : ∀ {n : Nat} {t : Tr}, Tr.ok n t → D.pure t.p = true := by
  intro n
  induction n with
  | zero => intro t h; cases t <;> first | rfl | exact h.elim
  | succ n ih =>
    intro t h
    have L : ∀ ts : List Tr, (∀ t ∈ ts, Tr.ok n t) → D.pureL (Tr.pL ts) = true := fun ts hs => by
      rw [pL_map, pureL_iff]
      intro x hx
      obtain ⟨t, ht, e⟩ := List.mem_map.mp hx
      exact e ▸ ih (hs t ht)
    cases t with
    | word w => rfl
    | rest => rfl
    | row ts => simp only [Tr.p, D.pure, D.pureL, L ts h.2.2, Bool.and_true]
    | lay ts => simp only [Tr.p, D.pure, D.pureL, L ts h.2.2, Bool.and_true]
    | turn ts => simp only [Tr.p, D.pure, D.pureL, L ts h.2.2, Bool.and_true]
    | fast m t => simp only [Tr.p, D.pure, D.pureL, ih h.2, Bool.and_true]
    | slow m t => simp only [Tr.p, D.pure, D.pureL, ih h.2, Bool.and_true]
    | shift a b t => simp only [Tr.p, D.pure, D.pureL, ih h.2, Bool.and_true]
    | rev t => simp only [Tr.p, D.pure, D.pureL, ih (t := t) h, Bool.and_true]
    | every m t u => simp only [Tr.p, D.pure, D.pureL, ih h.2.1, ih h.2.2, Bool.and_true]
mutual
def Tr.units : Tr → Int
  | .word _ => 1
  | .rest => 1
  | .row ts => 1 + (Tr.unitsL ts).sum
  | .lay ts => 1 + (Tr.unitsL ts).sum
  | .turn ts => 1 + (Tr.unitsL ts).sum
  | .fast _ t => t.units
  | .slow _ t => t.units
  | .shift _ _ t => 1 + t.units
  | .rev t => 1 + t.units
  | .every _ t u => 1 + (t.units + u.units)
def Tr.unitsL : List Tr → List Int
  | [] => []
  | t :: ts => t.units :: Tr.unitsL ts
end
theorem unitsL_map : ∀ ts : List Tr, Tr.unitsL ts = ts.map Tr.units
  | [] => rfl
  | t :: ts => by rw [Tr.unitsL, unitsL_map ts]; rfl
theorem units_run {P : Prog} (h : P.fn 33 = some Bd.f33) (g : P.glob 33 = true) : ∀ (n k : Nat) (t : Tr) (M : Mem), Tr.ok n t → runF P (k + n + 1) 33 [t.d] M = .ok (.int t.units) M := by
  intro n
  induction n with
  | zero =>
    intro k t M ok
    rw [run_eq h rfl]
    cases t <;> first | rfl | exact ok.elim
  | succ n ih =>
    intro k t M ok
    rw [run_eq h rfl]
    have C33 : ∀ t M, Tr.ok n t → pcall (P.cn (runF P (k + (n + 1)))) 33 [t.d] M = .ok (.int t.units) M := fun t M ok => pcall_run (ih k t [] ok) rfl
    have g33 : (P.cn (runF P (k + (n + 1)))).has 33 = true := g
    generalize P.cn (runF P (k + (n + 1))) = C at C33 g33
    show (exS C Bd.b33 [some t.d, none] M).res = _
    have S : ∀ (p : List Nat) (b : Bool) (q : D) (ts : List Tr), (∀ M, cop .nin (.str p) (.lst [.str [102, 97, 115, 116], .str [115, 108, 111, 119]]) M = some b) →
        ts.length ≤ 1000000 → (∀ t ∈ ts, Tr.ok n t) →
        (exS C Bd.b33 [some (.tup [.str p, q, .lst (Tr.dL ts)]), none] M).res = .ok (.int ((if b then 1 else 0) + (Tr.unitsL ts).sum)) M := fun p b q ts i1 hl hs => by
      have w : evE C (.comp false (.nm 1) (.src (.idx (.var 0) (.cI 2))) (.cB true) (.pcall 33 (.cons (.var 1) .nil))) [some (.tup [.str p, q, .lst (Tr.dL ts)]), none] M = .ok (.lst (ts.map fun t => .int t.units)) M := by
        refine comp_pcall (p := Tr.d) (src := .live (.lst (Tr.dL ts))) (by simp) g33 (fun t ht => ⟨C33 t M (hs t ht), ok_pure (hs t ht)⟩) ?_ ?_ (by unfold top; omega)
        · rfl
        · rw [dL_map]; rfl
      have i2 : ∀ M, bi .int [.bl b] M = .ok (.int (if b then 1 else 0)) M := fun _ => rfl
      unfold Bd.b33
      simp only [q_seq, q_set, q_ite, q_cmp, q_ch2, q_ch3, q_var, q_cI, q_cS, q_cB, q_cN, q_gl, q_cons, q_nil, q_if, q_ret, q_tup0, q_tup1, q_tup2, q_tup3, q_tup4, q_nop, q_idx, q_lst0, q_lst1, q_lst2, q_lst3, q_lst4, q_lst5, q_lst6, q_bin, q_bi, q_bm, q_and, q_or, q_not, q_exp, q_par, cop_gt, cop_lt, cop_le, cop_ge, cop_eqI, cop_neI, cop_eqS, cop_neS, cop_isN, bop_add, bop_sub, mkL, view_non, view_bl, view_int_, view_str_, view_tup_, view_lst_, index_lst, index_tup, atI_0, atI_1, atI_2, Tg.to, Oc.res, setAll, List.length_cons, List.length_nil, List.set_cons_succ, List.set_cons_zero, List.getElem?_cons_succ, List.getElem?_cons_zero, ↓reduceIte, Nat.reduceAdd, Nat.reduceBEq, List.cons_beq_cons, Bool.and_false, Bool.false_and, Bool.and_true, Bool.true_and, Bool.not_true, Bool.not_false, beq_self_eq_true, i1, i2, w, bi_sum_, unitsL_map]
    cases t with
    | word w => rfl
    | rest => rfl
    | row ts => exact S _ true _ ts (fun _ => rfl) ok.2.1 ok.2.2
    | lay ts => exact S _ true _ ts (fun _ => rfl) ok.2.1 ok.2.2
    | turn ts => exact S _ true _ ts (fun _ => rfl) ok.2.1 ok.2.2
    | fast m t =>
      refine (S [102, 97, 115, 116] false (.int m) [t] (fun _ => rfl) (by simp) (mem1 (ok.2))).trans ?_
      simp [Tr.units, Tr.unitsL]
    | slow m t =>
      refine (S [115, 108, 111, 119] false (.int m) [t] (fun _ => rfl) (by simp) (mem1 (ok.2))).trans ?_
      simp [Tr.units, Tr.unitsL]
    | shift a b t =>
      refine (S [115, 104, 105, 102, 116] true (.tup [.int a, .int b]) [t] (fun _ => rfl) (by simp) (mem1 (ok.2))).trans ?_
      simp [Tr.units, Tr.unitsL]
    | rev t =>
      refine (S [114, 101, 118] true (.int 0) [t] (fun _ => rfl) (by simp) (mem1 (ok))).trans ?_
      simp [Tr.units, Tr.unitsL]
    | every m t u =>
      refine (S [101, 118, 101, 114, 121] true (.int m) [t, u] (fun _ => rfl) (by simp) (mem2 (ok.2.1) (ok.2.2))).trans ?_
      simp [Tr.units, Tr.unitsL]
/-- the program's count of units -/
theorem count_run {P : Prog} (h : P.fn 45 = some Bd.f45) (g : P.glob 45 = true) : ∀ (n k : Nat) (t : Tr) (M : Mem), Tr.ok n t → runF P (k + n + 1) 45 [t.p] M = .ok (.int t.units) M := by
  intro n
  induction n with
  | zero =>
    intro k t M ok
    rw [run_eq h rfl]
    cases t <;> first | rfl | exact ok.elim
  | succ n ih =>
    intro k t M ok
    rw [run_eq h rfl]
    have C45 : ∀ t M, Tr.ok n t → pcall (P.cn (runF P (k + (n + 1)))) 45 [t.p] M = .ok (.int t.units) M := fun t M ok => pcall_run (ih k t [] ok) rfl
    have g45 : (P.cn (runF P (k + (n + 1)))).has 45 = true := g
    generalize P.cn (runF P (k + (n + 1))) = C at C45 g45
    show (exS C Bd.b45 [some t.p, none, none] M).res = _
    have S : ∀ (p : List Nat) (b : Bool) (q : D) (ts : List Tr), (∀ M, cop .inn (.str p) (.tup [.str [102, 97, 115, 116], .str [115, 108, 111, 119]]) M = some (!b)) →
        ts.length ≤ 1000000 → (∀ t ∈ ts, Tr.ok n t) →
        (exS C Bd.b45 [some (.tup [.str p, q, .tup (Tr.pL ts)]), none, none] M).res = .ok (.int ((if b then 1 else 0) + (Tr.unitsL ts).sum)) M := fun p b q ts i1 hl hs => by
      have w : ∀ o, evE C (.comp false (.nm 2) (.src (.idx (.var 0) (.cI 2))) (.cB true) (.pcall 45 (.cons (.var 2) .nil))) [some (.tup [.str p, q, .tup (Tr.pL ts)]), o, none] M = .ok (.lst (ts.map fun t => .int t.units)) M := fun o => by
        refine comp_pcall (p := Tr.p) (src := .live (.tup (Tr.pL ts))) (by simp) g45 (fun t ht => ⟨C45 t M (hs t ht), ok_pureP (hs t ht)⟩) ?_ ?_ (by unfold top; omega)
        · rfl
        · rw [pL_map]; rfl
      unfold Bd.b45
      cases b with
      | true => simp only [q_seq, q_set, q_ite, q_cmp, q_ch2, q_ch3, q_var, q_cI, q_cS, q_cB, q_cN, q_gl, q_cons, q_nil, q_if, q_ret, q_tup0, q_tup1, q_tup2, q_tup3, q_tup4, q_nop, q_idx, q_lst0, q_lst1, q_lst2, q_lst3, q_lst4, q_lst5, q_lst6, q_bin, q_bi, q_bm, q_and, q_or, q_not, q_exp, q_par, cop_gt, cop_lt, cop_le, cop_ge, cop_eqI, cop_neI, cop_eqS, cop_neS, cop_isN, bop_add, bop_sub, mkL, view_non, view_bl, view_int_, view_str_, view_tup_, view_lst_, index_lst, index_tup, atI_0, atI_1, atI_2, Tg.to, Oc.res, setAll, List.length_cons, List.length_nil, List.set_cons_succ, List.set_cons_zero, List.getElem?_cons_succ, List.getElem?_cons_zero, ↓reduceIte, Nat.reduceAdd, Nat.reduceBEq, List.cons_beq_cons, Bool.and_false, Bool.false_and, Bool.and_true, Bool.true_and, Bool.not_true, Bool.not_false, beq_self_eq_true, i1, w, bi_sum_, unitsL_map]
      | false => simp only [q_seq, q_set, q_ite, q_cmp, q_ch2, q_ch3, q_var, q_cI, q_cS, q_cB, q_cN, q_gl, q_cons, q_nil, q_if, q_ret, q_tup0, q_tup1, q_tup2, q_tup3, q_tup4, q_nop, q_idx, q_lst0, q_lst1, q_lst2, q_lst3, q_lst4, q_lst5, q_lst6, q_bin, q_bi, q_bm, q_and, q_or, q_not, q_exp, q_par, cop_gt, cop_lt, cop_le, cop_ge, cop_eqI, cop_neI, cop_eqS, cop_neS, cop_isN, bop_add, bop_sub, mkL, view_non, view_bl, view_int_, view_str_, view_tup_, view_lst_, index_lst, index_tup, atI_0, atI_1, atI_2, Tg.to, Oc.res, setAll, List.length_cons, List.length_nil, List.set_cons_succ, List.set_cons_zero, List.getElem?_cons_succ, List.getElem?_cons_zero, ↓reduceIte, Nat.reduceAdd, Nat.reduceBEq, List.cons_beq_cons, Bool.and_false, Bool.false_and, Bool.and_true, Bool.true_and, Bool.not_true, Bool.not_false, beq_self_eq_true, i1, w, bi_sum_, unitsL_map]; rfl
    cases t with
    | word w => rfl
    | rest => rfl
    | row ts => exact S _ true _ ts (fun _ => rfl) ok.2.1 ok.2.2
    | lay ts => exact S _ true _ ts (fun _ => rfl) ok.2.1 ok.2.2
    | turn ts => exact S _ true _ ts (fun _ => rfl) ok.2.1 ok.2.2
    | fast m t =>
      refine (S [102, 97, 115, 116] false (.int m) [t] (fun _ => rfl) (by simp) (mem1 (ok.2))).trans ?_
      simp [Tr.units, Tr.unitsL]
    | slow m t =>
      refine (S [115, 108, 111, 119] false (.int m) [t] (fun _ => rfl) (by simp) (mem1 (ok.2))).trans ?_
      simp [Tr.units, Tr.unitsL]
    | shift a b t =>
      refine (S [108, 97, 116, 101] true (.tup [.int a, .int b]) [t] (fun _ => rfl) (by simp) (mem1 (ok.2))).trans ?_
      simp [Tr.units, Tr.unitsL]
    | rev t =>
      refine (S [109, 105, 114, 114, 111, 114] true .non [t] (fun _ => rfl) (by simp) (mem1 (ok))).trans ?_
      simp [Tr.units, Tr.unitsL]
    | every m t u =>
      refine (S [101, 97, 99, 104] true (.int m) [t, u] (fun _ => rfl) (by simp) (mem2 (ok.2.1) (ok.2.2))).trans ?_
      simp [Tr.units, Tr.unitsL]
end Cy
end

section
set_option linter.all false
set_option maxRecDepth 100000
set_option maxHeartbeats 4000000
set_option exponentiation.threshold 3000
/-! Plain: the bound of a drawn tree. -/
namespace Cy
mutual
def Tr.bnd : Tr → Nat
  | .word _ => 1
  | .rest => 1
  | .row ts => Tr.bndL ts 1
  | .lay ts => Tr.bndL ts 1
  | .turn ts => Tr.bndL ts 1 * ts.length
  | .fast n t => t.bnd / Nat.gcd t.bnd n
  | .slow n t => t.bnd * n
  | .shift _ _ t => t.bnd
  | .rev t => t.bnd
  | .every n t u => (t.bnd * u.bnd / Nat.gcd t.bnd u.bnd) * n / Nat.gcd (t.bnd * u.bnd / Nat.gcd t.bnd u.bnd) n
def Tr.bndL : List Tr → Nat → Nat
  | [], a => a
  | t :: ts, a => Tr.bndL ts (a * t.bnd / Nat.gcd a t.bnd)
end
theorem lcm_le {a b : Nat} : a * b / Nat.gcd a b ≤ a * b := Nat.div_le_self _ _
theorem lcm_pos {a b : Nat} (ha : 0 < a) (hb : 0 < b) : 0 < a * b / Nat.gcd a b :=
  Nat.div_pos (Nat.le_trans (Nat.gcd_le_left _ ha) (Nat.le_mul_of_pos_right _ hb)) (Nat.gcd_pos_of_pos_left _ ha)
theorem bndL_le {B : Nat} (hB : 0 < B) : ∀ {ts : List Tr} {a : Nat}, (∀ t ∈ ts, 0 < t.bnd ∧ t.bnd ≤ B) → 0 < a → 0 < Tr.bndL ts a ∧ Tr.bndL ts a ≤ a * B ^ ts.length
  | [], a, _, ha => by simp [Tr.bndL]; exact ha
  | t :: ts, a, h, ha => by
    obtain ⟨h1, h2⟩ := h t List.mem_cons_self
    obtain ⟨q1, q2⟩ := bndL_le hB (ts := ts) (a := a * t.bnd / Nat.gcd a t.bnd) (fun t ht => h t (List.mem_cons_of_mem _ ht)) (lcm_pos ha h1)
    rw [Tr.bndL]
    refine ⟨q1, Nat.le_trans q2 ?_⟩
    rw [List.length_cons, Nat.pow_succ, Nat.mul_comm (B ^ _) B, ← Nat.mul_assoc]
    exact Nat.mul_le_mul_right _ (Nat.le_trans lcm_le (Nat.mul_le_mul_left _ h2))
/-- bounds by depth -/
def Bmax : Nat → Nat
  | 0 => 1
  | n + 1 => 6 * Bmax n ^ 5
theorem Bmax_pos : ∀ n, 0 < Bmax n
  | 0 => by decide
  | n + 1 => Nat.mul_pos (by decide) (Nat.pow_pos (Bmax_pos n))
theorem Bmax_le : ∀ n, n ≤ 3 → Bmax n ≤ 2 ^ 81
  | 0, _ => by decide
  | 1, _ => by decide
  | 2, _ => by decide
  | 3, _ => by decide
  | n + 4, h => absurd h (by omega)
theorem pow_le5 {B m : Nat} (hB : 0 < B) (h : m ≤ 5) : B ^ m ≤ B ^ 5 := Nat.pow_le_pow_right hB h
theorem bnd_le : ∀ {n : Nat} {t : Tr}, Tr.wf n t → 0 < t.bnd ∧ t.bnd ≤ Bmax n := by
  intro n
  induction n with
  | zero => intro t h; cases t <;> first | (exact ⟨Nat.one_pos, Nat.le_refl 1⟩) | exact h.elim
  | succ n ih =>
    intro t h
    have B0 := Bmax_pos n
    have B1 : Bmax n ≤ Bmax n ^ 5 := by
      have := Nat.pow_le_pow_right B0 (show 1 ≤ 5 by decide)
      rwa [Nat.pow_one] at this
    have B2 : Bmax n * Bmax n ≤ Bmax n ^ 5 := by
      have := Nat.pow_le_pow_right B0 (show 2 ≤ 5 by decide)
      rwa [Nat.pow_two] at this
    have L : ∀ ts : List Tr, ts.length ≤ 5 → Tr.wfL n ts → 0 < Tr.bndL ts 1 ∧ Tr.bndL ts 1 ≤ Bmax n ^ 5 := fun ts hl hs => by
      obtain ⟨h1, h2⟩ := bndL_le B0 (ts := ts) (a := 1) (fun t ht => ih (wfL_iff.mp hs t ht)) (by decide)
      rw [Nat.one_mul] at h2
      exact ⟨h1, Nat.le_trans h2 (pow_le5 B0 hl)⟩
    show 0 < t.bnd ∧ t.bnd ≤ 6 * Bmax n ^ 5
    have B5 : 0 < Bmax n ^ 5 := Nat.pow_pos B0
    cases t with
    | word w => exact ⟨Nat.one_pos, by show 1 ≤ _; omega⟩
    | rest => exact ⟨Nat.one_pos, by show 1 ≤ _; omega⟩
    | row ts => have := L ts h.2.1 h.2.2; exact ⟨this.1, by show Tr.bndL ts 1 ≤ _; omega⟩
    | lay ts => have := L ts h.2.1 h.2.2; exact ⟨this.1, by show Tr.bndL ts 1 ≤ _; omega⟩
    | turn ts =>
      have h0 := L ts h.2.1 h.2.2
      refine ⟨Nat.mul_pos h0.1 h.1, ?_⟩
      show Tr.bndL ts 1 * ts.length ≤ _
      have := Nat.mul_le_mul h0.2 (show ts.length ≤ 6 by have := h.2.1; omega)
      omega
    | fast m t =>
      have h0 := ih h.2.2
      refine ⟨Nat.div_pos (Nat.gcd_le_left _ h0.1) (Nat.gcd_pos_of_pos_left _ h0.1), ?_⟩
      have : t.bnd / Nat.gcd t.bnd m ≤ t.bnd := Nat.div_le_self _ _
      show t.bnd / Nat.gcd t.bnd m ≤ _
      omega
    | slow m t =>
      have h0 := ih h.2.2
      refine ⟨Nat.mul_pos h0.1 h.1, ?_⟩
      show t.bnd * m ≤ _
      have := Nat.mul_le_mul (Nat.le_trans h0.2 B1) h.2.1
      omega
    | shift a b t => have h0 := ih h.2.2.2; exact ⟨h0.1, by show t.bnd ≤ _; omega⟩
    | rev t => have h0 := ih (t := t) h; exact ⟨h0.1, by show t.bnd ≤ _; omega⟩
    | every m t u =>
      have h1 := ih h.2.2.1
      have h2 := ih h.2.2.2
      have p := lcm_pos h1.1 h2.1
      refine ⟨lcm_pos p h.1, ?_⟩
      show (t.bnd * u.bnd / Nat.gcd t.bnd u.bnd) * m / _ ≤ _
      refine Nat.le_trans lcm_le ?_
      have q := Nat.mul_le_mul (Nat.le_trans lcm_le (Nat.le_trans (Nat.mul_le_mul h1.2 h2.2) B2)) (show m ≤ 6 by have := h.2.1; omega)
      refine Nat.le_trans q ?_
      omega
theorem wide_nat {a : Nat} (h : a < 2 ^ 1000) : wide (a : Int) = true := by
  refine wide_small (by omega) ?_
  have : ((2 ^ 1000 : Nat) : Int) = (2 : Int) ^ 1000 := by norm_cast
  omega
theorem log_nat {a : Nat} (h : a < 2 ^ 1000) (p : 0 < a) : (a : Int).natAbs.log2 < 9000 := by
  rw [Int.natAbs_natCast]
  have : a.log2 < 1000 := (Nat.log2_lt (by omega)).mpr h
  omega
/-- a product divided by the greatest common divisor -/
theorem lcm_bop {a b : Nat} {M : Mem} (ha : 0 < a) (h1 : a < 2 ^ 1000) (h2 : b < 2 ^ 1000) : bop .mul (.int a) (.int b) M = .ok (.int (a * b : Nat)) M ∧ bop .fdiv (.int (a * b : Nat)) (.int (Nat.gcd a b : Nat)) M = .ok (.int (a * b / Nat.gcd a b : Nat)) M := by
  refine ⟨?_, ?_⟩
  · rw [bop_mul (wide_nat h1) (wide_nat h2), Int.natCast_mul]
  · have pg : 0 < Nat.gcd a b := Nat.gcd_pos_of_pos_left _ ha
    have lg := Nat.gcd_le_left b ha
    rw [bop_fdiv (by omega) (log_nat (by omega) pg), Int.natCast_ediv]
def bndB : St := .seq (.set (.nm 6) (.pcall 34 (.cons (.var 2) .nil)))
      (.seq (.set (.nm 1) (.bin .fdiv (.bin .mul (.var 1) (.var 6)) (.pcall 29 (.cons (.var 1) (.cons (.var 6) .nil)))))
      .nop)
theorem bnd_step {C : Cn} {M : Mem} {x6 p q w z : Option D} {t : Tr} {a : Nat} (g34 : C.has 34 = true) (g29 : C.has 29 = true) (hp : D.pure t.d = true) (h34 : pcall C 34 [t.d] M = .ok (.int t.bnd) M)
    (h29 : pcall C 29 [.int a, .int t.bnd] M = .ok (.int (Nat.gcd a t.bnd)) M) (ha : 0 < a) (h1 : a < 2 ^ 1000) (h2 : t.bnd < 2 ^ 1000) :
    exS C bndB [z, some (.int a), some t.d, p, q, w, x6] M = .nx [z, some (.int (a * t.bnd / Nat.gcd a t.bnd : Nat)), some t.d, p, q, w, some (.int t.bnd)] M := by
  obtain ⟨e1, e2⟩ := lcm_bop (M := M) ha h1 h2
  have pu : D.pureL [.int (a : Int), .int (t.bnd : Int)] = true := rfl
  have pv : D.pureL [t.d] = true := by simp only [D.pureL, hp, Bool.and_true]
  unfold bndB
  simp only [q_seq, q_set, q_pcall g34, q_pcall g29, q_cons, q_nil, q_var, q_bin, q_nop, Tg.to, List.set_cons_succ, List.set_cons_zero, List.getElem?_cons_succ, List.getElem?_cons_zero, ↓reduceIte, pu, pv, h34, h29, e1, e2]
theorem bnd_loop {C : Cn} {M : Mem} {p q w z : Option D} {B : Nat} (hB : 0 < B) (g34 : C.has 34 = true) (g29 : C.has 29 = true) (C29 : ∀ a b : Nat, b < 2 ^ 1000 → pcall C 29 [.int a, .int b] M = .ok (.int (Nat.gcd a b)) M) :
    ∀ (ts : List Tr) (a : Nat) (x2 x6 : Option D), (∀ t ∈ ts, D.pure t.d = true ∧ pcall C 34 [t.d] M = .ok (.int t.bnd) M ∧ 0 < t.bnd ∧ t.bnd ≤ B) → 0 < a → a * B ^ ts.length < 2 ^ 1000 →
    ∃ x2' x6', foldO (.nm 2) (exS C bndB) (ts.map Tr.d) [z, some (.int a), x2, p, q, w, x6] M = .nx [z, some (.int (Tr.bndL ts a : Nat)), x2', p, q, w, x6'] M
  | [], a, x2, x6, _, _, _ => ⟨x2, x6, rfl⟩
  | t :: ts, a, x2, x6, h, ha, hb => by
    obtain ⟨t1, t2, t3, t4⟩ := h t List.mem_cons_self
    have pB : 0 < B ^ ts.length := Nat.pow_pos hB
    rw [List.length_cons, Nat.pow_succ, Nat.mul_comm (B ^ _) B, ← Nat.mul_assoc] at hb
    have hab : a * B < 2 ^ 1000 := Nat.lt_of_le_of_lt (Nat.le_mul_of_pos_right _ pB) hb
    have h1 : a < 2 ^ 1000 := Nat.lt_of_le_of_lt (Nat.le_mul_of_pos_right _ hB) hab
    have h2 : t.bnd < 2 ^ 1000 := Nat.lt_of_le_of_lt (Nat.le_trans t4 (Nat.le_mul_of_pos_left _ ha)) hab
    obtain ⟨x2', x6', e⟩ := bnd_loop (p := p) (q := q) (w := w) (z := z) hB g34 g29 C29 ts (a * t.bnd / Nat.gcd a t.bnd) (some t.d) (some (.int t.bnd)) (fun t ht => h t (List.mem_cons_of_mem _ ht)) (lcm_pos ha t3)
      (Nat.lt_of_le_of_lt (Nat.mul_le_mul_right _ (Nat.le_trans lcm_le (Nat.mul_le_mul_left _ t4))) hb)
    refine ⟨x2', x6', ?_⟩
    simp only [List.map_cons, foldO, Tg.to, List.set_cons_succ, List.set_cons_zero]
    rw [bnd_step g34 g29 t1 t2 (C29 _ _ h2) ha h1 h2]
    exact e
theorem bound_run {P : Prog} (h : P.fn 34 = some Bd.f34) (g : P.glob 34 = true) (h29 : P.fn 29 = some Bd.f29) (g29 : P.glob 29 = true) : ∀ (n k : Nat) (t : Tr) (M : Mem), n ≤ 3 → Tr.wf n t → runF P (k + n + 2) 34 [t.d] M = .ok (.int t.bnd) M := by
  intro n
  induction n with
  | zero =>
    intro k t M hn ok
    rw [run_eq h rfl]
    cases t <;> first | rfl | exact ok.elim
  | succ n ih =>
    intro k t M hn ok
    rw [run_eq h rfl]
    have C34 : ∀ t M, Tr.wf n t → pcall (P.cn (runF P (k + (n + 1) + 1))) 34 [t.d] M = .ok (.int t.bnd) M := fun t M ok => pcall_run (ih k t [] (by omega) ok) rfl
    have C29 : ∀ (a b : Nat), b < 2 ^ 1000 → pcall (P.cn (runF P (k + (n + 1) + 1))) 29 [.int a, .int b] M = .ok (.int (Nat.gcd a b)) M := fun a b hb => pcall_run (gcd_run (f := 29) h29 (Nat.lt_trans hb (Nat.pow_lt_pow_right (by decide) (by decide)))) rfl
    have g34 : (P.cn (runF P (k + (n + 1) + 1))).has 34 = true := g
    have g29 : (P.cn (runF P (k + (n + 1) + 1))).has 29 = true := g29
    generalize P.cn (runF P (k + (n + 1) + 1)) = C at C34 C29 g34 g29
    show (exS C Bd.b34 [some t.d, none, none, none, none, none, none] M).res = _
    have B0 := Bmax_pos n
    have B5 : Bmax n ^ 5 < 2 ^ 1000 := Nat.lt_of_le_of_lt (Nat.pow_le_pow_left (Bmax_le n (by omega)) 5) (by decide)
    -- the loop
    have W : ∀ (kd q : D) (ts : List Tr), ts.length ≤ 5 → Tr.wfL n ts → ∃ x2 x6, exS C (.for_ (.nm 2) (.src (.var 5)) bndB) [some (.tup [kd, q, .lst (Tr.dL ts)]), some (.int 1), none, some kd, some q, some (.lst (Tr.dL ts)), none] M =
        .nx [some (.tup [kd, q, .lst (Tr.dL ts)]), some (.int (Tr.bndL ts 1 : Nat)), x2, some kd, some q, some (.lst (Tr.dL ts)), x6] M := fun kd q ts hl hs => by
      obtain ⟨x2, x6, e⟩ := bnd_loop (C := C) (M := M) (p := some kd) (q := some q) (w := some (.lst (Tr.dL ts))) (z := some (.tup [kd, q, .lst (Tr.dL ts)])) B0 g34 g29 C29 ts 1 none none
        (fun t ht => ⟨ok_pure (wf_ok (wfL_iff.mp hs t ht)), C34 t M (wfL_iff.mp hs t ht), bnd_le (wfL_iff.mp hs t ht)⟩) (by decide) (by rw [Nat.one_mul]; exact Nat.lt_of_le_of_lt (pow_le5 B0 hl) B5)
      refine ⟨x2, x6, ?_⟩
      have ev : evI C (.src (.var 5)) [some (.tup [kd, q, .lst (Tr.dL ts)]), some (.int 1), none, some kd, some q, some (.lst (Tr.dL ts)), none] M = .ok (.live (.lst (Tr.dL ts))) M := rfl
      rw [q_for ev rfl, dL_map]
      rw [dL_map] at e
      exact e
    have R : ∀ (kd : List Nat) (q : D) (ts : List Tr) (rest : St) (r : D), ts.length ≤ 5 → Tr.wfL n ts →
        (∀ x2 x6, exS C rest [some (.tup [.str kd, q, .lst (Tr.dL ts)]), some (.int (Tr.bndL ts 1 : Nat)), x2, some (.str kd), some q, some (.lst (Tr.dL ts)), x6] M = .rt r M) →
        (exS C (.seq (.set (.tp [3, 4, 5]) (.var 0)) (.seq (.set (.nm 1) (.cI 1)) (.seq (.for_ (.nm 2) (.src (.var 5)) bndB) rest))) [some (.tup [.str kd, q, .lst (Tr.dL ts)]), none, none, none, none, none, none] M).res = .ok r M := fun kd q ts rest r hl hs hr => by
      obtain ⟨x2, x6, e⟩ := W (.str kd) q ts hl hs
      rw [q_seq]
      show (exS C (.seq (.set (.nm 1) (.cI 1)) (.seq (.for_ (.nm 2) (.src (.var 5)) bndB) rest)) [some (.tup [.str kd, q, .lst (Tr.dL ts)]), none, none, some (.str kd), some q, some (.lst (Tr.dL ts)), none] M).res = _
      rw [q_seq]
      show (exS C (.seq (.for_ (.nm 2) (.src (.var 5)) bndB) rest) [some (.tup [.str kd, q, .lst (Tr.dL ts)]), some (.int 1), none, some (.str kd), some q, some (.lst (Tr.dL ts)), none] M).res = _
      rw [q_seq, e]
      show (exS C rest _ M).res = _
      rw [hr]
      rfl
    have L : ∀ (ts : List Tr), ts.length ≤ 5 → Tr.wfL n ts → 0 < Tr.bndL ts 1 ∧ Tr.bndL ts 1 < 2 ^ 900 := fun ts hl hs => by
      obtain ⟨h1, h2⟩ := bndL_le B0 (ts := ts) (a := 1) (fun t ht => bnd_le (wfL_iff.mp hs t ht)) (by decide)
      rw [Nat.one_mul] at h2
      exact ⟨h1, Nat.lt_of_le_of_lt (Nat.le_trans h2 (pow_le5 B0 hl)) (Nat.lt_of_le_of_lt (Nat.pow_le_pow_left (Bmax_le n (by omega)) 5) (by decide))⟩
    have up : ∀ x : Nat, x < 2 ^ 900 → x < 2 ^ 1000 := fun x h => Nat.lt_trans h (Nat.pow_lt_pow_right (by decide) (by decide))
    have one : ∀ t : Tr, 0 < t.bnd → Tr.bndL [t] 1 = t.bnd := fun t _ => by
      show 1 * t.bnd / Nat.gcd 1 t.bnd = _
      rw [Nat.gcd_one_left, Nat.div_one, Nat.one_mul]
    have two : ∀ t u : Tr, 0 < t.bnd → Tr.bndL [t, u] 1 = t.bnd * u.bnd / Nat.gcd t.bnd u.bnd := fun t u _ => by
      show (1 * t.bnd / Nat.gcd 1 t.bnd) * u.bnd / Nat.gcd (1 * t.bnd / Nat.gcd 1 t.bnd) u.bnd = _
      rw [Nat.gcd_one_left, Nat.div_one, Nat.one_mul]
    cases t with
    | word w => rfl
    | rest => rfl
    | row ts => exact R _ _ ts _ _ ok.2.1 ok.2.2 (fun x2 x6 => rfl)
    | lay ts => exact R _ _ ts _ _ ok.2.1 ok.2.2 (fun x2 x6 => rfl)
    | turn ts =>
      obtain ⟨l1, l2⟩ := L ts ok.2.1 ok.2.2
      have e := bop_mul (M := M) (wide_nat (up _ l2)) (wide_nat (a := ts.length) (by have := ok.2.1; omega))
      refine R _ _ ts _ _ ok.2.1 ok.2.2 (fun x2 x6 => ?_)
      have e2 : evE C (.bin .mul (.var 1) (.bi .len (.cons (.var 5) .nil))) [some (.tup [.str [116, 117, 114, 110, 115], .int 0, .lst (Tr.dL ts)]), some (.int (Tr.bndL ts 1 : Nat)), x2, some (.str [116, 117, 114, 110, 115]), some (.int 0), some (.lst (Tr.dL ts)), x6] M = .ok (.int ((Tr.turn ts).bnd : Nat)) M := by
        simp only [q_bin, q_bi, q_cons, q_nil, q_var, List.getElem?_cons_succ, List.getElem?_cons_zero, bi_len_lst]
        rw [dL_map, List.length_map, e]
        show Res.ok (D.int _) M = Res.ok (D.int ((Tr.bndL ts 1 * ts.length : Nat) : Int)) M
        rw [Int.natCast_mul]
      generalize Ex.bin .mul (.var 1) (.bi .len (.cons (.var 5) .nil)) = X at e2 ⊢
      have i1 : ∀ M, cop .eq (.str [116, 117, 114, 110, 115]) (.str [116, 117, 114, 110, 115]) M = some true := fun _ => rfl
      simp only [q_seq, q_if, q_ret, q_cmp, q_cS, q_var, List.getElem?_cons_succ, List.getElem?_cons_zero, i1, e2]
    | fast m t =>
      obtain ⟨l1, l2⟩ := L [t] (by simp) ⟨ok.2.2, trivial⟩
      have hb := bnd_le ok.2.2
      rw [one t hb.1] at l1 l2
      have c29 := C29 t.bnd m (by have := ok.2.1; omega)
      have pg : 0 < Nat.gcd t.bnd m := Nat.gcd_pos_of_pos_left _ l1
      have lg := Nat.gcd_le_left m l1
      have e := bop_fdiv (M := M) (i := (t.bnd : Int)) (show (0 : Int) < (Nat.gcd t.bnd m : Nat) by omega) (log_nat (up _ (by omega)) pg)
      refine R [102, 97, 115, 116] (.int m) [t] _ _ (by simp) ⟨ok.2.2, trivial⟩ (fun x2 x6 => ?_)
      rw [one t hb.1]
      have i1 : ∀ M, cop .eq (.str [102, 97, 115, 116]) (.str [116, 117, 114, 110, 115]) M = some false := fun _ => rfl
      have i2 : ∀ M, cop .eq (.str [102, 97, 115, 116]) (.str [115, 108, 111, 119]) M = some false := fun _ => rfl
      have i3 : ∀ M, cop .eq (.str [102, 97, 115, 116]) (.str [102, 97, 115, 116]) M = some true := fun _ => rfl
      have pu : D.pureL [.int (t.bnd : Int), .int (m : Int)] = true := rfl
      simp only [q_seq, q_if, q_ret, q_cmp, q_cS, q_var, q_nop, q_bin, q_pcall g29, q_cons, q_nil, List.getElem?_cons_succ, List.getElem?_cons_zero, i1, i2, i3, pu, c29, e, ↓reduceIte]
      show Oc.rt (D.int _) M = Oc.rt (D.int ((t.bnd / Nat.gcd t.bnd m : Nat) : Int)) M
      rw [Int.natCast_ediv]
    | slow m t =>
      obtain ⟨l1, l2⟩ := L [t] (by simp) ⟨ok.2.2, trivial⟩
      have hb := bnd_le ok.2.2
      rw [one t hb.1] at l1 l2
      have e := bop_mul (M := M) (wide_nat (up _ l2)) (wide_nat (a := m) (by have := ok.2.1; omega))
      refine R [115, 108, 111, 119] (.int m) [t] _ _ (by simp) ⟨ok.2.2, trivial⟩ (fun x2 x6 => ?_)
      rw [one t hb.1]
      have i1 : ∀ M, cop .eq (.str [115, 108, 111, 119]) (.str [116, 117, 114, 110, 115]) M = some false := fun _ => rfl
      have i2 : ∀ M, cop .eq (.str [115, 108, 111, 119]) (.str [115, 108, 111, 119]) M = some true := fun _ => rfl
      simp only [q_seq, q_if, q_ret, q_cmp, q_cS, q_var, q_nop, q_bin, List.getElem?_cons_succ, List.getElem?_cons_zero, i1, i2, e]
      show Oc.rt (D.int _) M = Oc.rt (D.int ((t.bnd * m : Nat) : Int)) M
      rw [Int.natCast_mul]
    | shift a b t =>
      have hb := bnd_le ok.2.2.2
      refine R [115, 104, 105, 102, 116] (.tup [.int a, .int b]) [t] _ _ (by simp) ⟨ok.2.2.2, trivial⟩ (fun x2 x6 => ?_)
      rw [one t hb.1]
      rfl
    | rev t =>
      have hb := bnd_le (n := n) (t := t) ok
      refine R [114, 101, 118] (.int 0) [t] _ _ (by simp) ⟨ok, trivial⟩ (fun x2 x6 => ?_)
      rw [one t hb.1]
      rfl
    | every m t u =>
      have h1 := bnd_le ok.2.2.1
      have h2 := bnd_le ok.2.2.2
      obtain ⟨l1, l2⟩ := L [t, u] (by simp) ⟨ok.2.2.1, ok.2.2.2, trivial⟩
      rw [two t u h1.1] at l1 l2
      refine R [101, 118, 101, 114, 121] (.int m) [t, u] _ _ (by simp) ⟨ok.2.2.1, ok.2.2.2, trivial⟩ (fun x2 x6 => ?_)
      rw [two t u h1.1]
      show _ = Oc.rt (D.int (((t.bnd * u.bnd / Nat.gcd t.bnd u.bnd) * m / Nat.gcd (t.bnd * u.bnd / Nat.gcd t.bnd u.bnd) m : Nat) : Int)) M
      generalize t.bnd * u.bnd / Nat.gcd t.bnd u.bnd = b at l1 l2 ⊢
      have c29 := C29 b m (by have := ok.2.1; omega)
      obtain ⟨e1, e2⟩ := lcm_bop (M := M) (b := m) l1 (up _ l2) (by have := ok.2.1; omega)
      have i1 : ∀ M, cop .eq (.str [101, 118, 101, 114, 121]) (.str [116, 117, 114, 110, 115]) M = some false := fun _ => rfl
      have i2 : ∀ M, cop .eq (.str [101, 118, 101, 114, 121]) (.str [115, 108, 111, 119]) M = some false := fun _ => rfl
      have i3 : ∀ M, cop .eq (.str [101, 118, 101, 114, 121]) (.str [102, 97, 115, 116]) M = some false := fun _ => rfl
      have i4 : ∀ M, cop .eq (.str [101, 118, 101, 114, 121]) (.str [101, 118, 101, 114, 121]) M = some true := fun _ => rfl
      have pu : D.pureL [.int (b : Int), .int (m : Int)] = true := rfl
      simp only [q_seq, q_if, q_ite, q_ret, q_cmp, q_cS, q_var, q_nop, q_bin, q_pcall g29, q_cons, q_nil, List.getElem?_cons_succ, List.getElem?_cons_zero, i1, i2, i3, i4, pu, c29, e1, e2, ↓reduceIte]
end Cy
end

section
set_option linter.all false
set_option maxRecDepth 100000
set_option maxHeartbeats 4000000
/-! Plain: a drawn pattern. -/
namespace Cy
theorem wf_mono : ∀ {n m : Nat} {t : Tr}, Tr.wf n t → n ≤ m → Tr.wf m t := by
  intro n
  induction n with
  | zero => intro m t h hm; cases t <;> first | exact h.elim | (cases m <;> exact h)
  | succ n ih =>
    intro m t h hm
    obtain ⟨m, rfl⟩ : ∃ j, m = j + 1 := ⟨m - 1, by omega⟩
    have hm : n ≤ m := by omega
    have L : ∀ {ts : List Tr}, Tr.wfL n ts → Tr.wfL m ts := fun h => wfL_iff.mpr fun t ht => ih (wfL_iff.mp h t ht) hm
    cases t with
    | word w => exact h
    | rest => exact h
    | row ts => exact ⟨h.1, h.2.1, L h.2.2⟩
    | lay ts => exact ⟨h.1, h.2.1, L h.2.2⟩
    | turn ts => exact ⟨h.1, h.2.1, L h.2.2⟩
    | fast k t => exact ⟨h.1, h.2.1, ih h.2.2 hm⟩
    | slow k t => exact ⟨h.1, h.2.1, ih h.2.2 hm⟩
    | shift a b t => exact ⟨h.1, h.2.1, h.2.2.1, ih h.2.2.2 hm⟩
    | rev t => exact ih (t := t) h hm
    | every k t u => exact ⟨h.1, h.2.1, ih h.2.2.1 hm, ih h.2.2.2 hm⟩
theorem weight_le : ∀ {n : Nat} {t : Tr}, Tr.wf n t → t.weight ≤ 30 ^ n := by
  intro n
  induction n with
  | zero => intro t h; cases t <;> first | (show (1 : Int) ≤ _; decide) | exact h.elim
  | succ n ih =>
    intro t h
    have p : (0 : Int) < 30 ^ n := Int.pow_pos (by decide)
    have e : (30 : Int) ^ (n + 1) = 30 ^ n * 30 := Int.pow_succ _ _
    rw [e]
    have S : ∀ ts : List Tr, Tr.wfL n ts → (Tr.weightL ts).sum ≤ ts.length * 30 ^ n := fun ts => by
      induction ts with
      | nil => intro _; simp [Tr.weightL]
      | cons t ts ih2 =>
        intro h
        have h1 := ih h.1
        have h2 := ih2 h.2
        simp only [Tr.weightL, List.sum_cons, List.length_cons]
        have : ((ts.length + 1 : Nat) : Int) * 30 ^ n = ts.length * 30 ^ n + 30 ^ n := by
          rw [Int.natCast_add, Int.add_mul]; simp
        omega
    have X : ∀ ts : List Tr, Tr.wfL n ts → (maxL (Tr.weightL ts)).getD 0 ≤ 30 ^ n := fun ts h => by
      cases ts with
      | nil => show (0 : Int) ≤ _; omega
      | cons t ts =>
        obtain ⟨m, e, hm, _⟩ := maxL_some (xs := Tr.weightL (t :: ts)) (by simp [Tr.weightL])
        rw [e]
        rw [weightL_map] at hm
        obtain ⟨t, ht, e⟩ := List.mem_map.mp hm
        exact e ▸ ih (wfL_iff.mp h t ht)
    have S5 : ∀ ts : List Tr, ts.length ≤ 5 → Tr.wfL n ts → (Tr.weightL ts).sum ≤ 30 ^ n * 30 := fun ts hl h => by
      have h1 := S ts h
      have h2 : (ts.length : Int) * 30 ^ n ≤ 5 * 30 ^ n := Int.mul_le_mul_of_nonneg_right (by omega) (by omega)
      omega
    cases t with
    | word w => show (1 : Int) ≤ _; omega
    | rest => show (1 : Int) ≤ _; omega
    | row ts => exact S5 ts h.2.1 h.2.2
    | lay ts => exact S5 ts h.2.1 h.2.2
    | turn ts => have := X ts h.2.2; show (maxL (Tr.weightL ts)).getD 0 ≤ _; omega
    | fast m t =>
      have h1 := ih h.2.2
      show t.weight * m ≤ _
      have h2 : t.weight * (m : Int) ≤ 30 ^ n * (m : Int) := Int.mul_le_mul_of_nonneg_right h1 (by omega)
      have h3 : (30 : Int) ^ n * (m : Int) ≤ 30 ^ n * 30 := Int.mul_le_mul_of_nonneg_left (by have := h.2.1; omega) (by omega)
      omega
    | slow m t => have := ih h.2.2; show t.weight ≤ _; omega
    | shift a b t => have := ih h.2.2.2; show t.weight ≤ _; omega
    | rev t => have := ih (t := t) h; show t.weight ≤ _; omega
    | every m t u => have := X [t, u] ⟨h.2.2.1, h.2.2.2, trivial⟩; show (maxL [t.weight, u.weight]).getD 0 ≤ _; show (maxL (Tr.weightL [t, u])).getD 0 ≤ _; omega
/-- what _law_pattern gives -/
structure Tr.good (t : Tr) : Prop where
  wf : Tr.wf 3 t
  weight : t.weight ≤ 60
  units : t.units ≤ 25
  bnd : t.bnd ≤ 40
section
variable {P : Prog} {M : Mem} {l : Nat}
structure PatP (P : Prog) : Prop extends TreeP P where
  weight : P.fn 32 = some Bd.f32
  units : P.fn 33 = some Bd.f33
  bound : P.fn 34 = some Bd.f34
  pattern : P.fn 35 = some Bd.f35
  g32 : P.glob 32 = true
  g33 : P.glob 33 = true
  g34 : P.glob 34 = true
  g35 : P.glob 35 = true
def patB : St := .seq (.set (.nm 2) (.call 31 (.cons (.var 0) (.cons (.bin .add (.cI 1) (.call 28 (.cons (.var 0) (.cons (.cI 3) .nil)))) .nil))))
      (.seq (.ite (.and (.cmp .le (.pcall 32 (.cons (.var 2) .nil)) (.cI 60)) (.and (.cmp .le (.pcall 33 (.cons (.var 2) .nil)) (.cI 25)) (.cmp .le (.pcall 34 (.cons (.var 2) .nil)) (.cI 40))))
      (.seq (.ret (.var 2))
      .nop)
      .nop)
      .nop)
theorem pat_step {C : Cn} (g28 : C.has 28 = true) (g31 : C.has 31 = true) (g32 : C.has 32 = true) (g33 : C.has 33 = true) (g34 : C.has 34 = true)
    (C28 : ∀ (s : Rnd) (n' : Int), s.ok → 0 < n' → n'.natAbs.log2 < 9000 → C.call 28 [.obj l, .int n'] (M.set l (.lst s.d)) = .ok (.int (s.out n')) (M.set l (.lst (s.next n').d)))
    (C31 : ∀ (s : Rnd) (n : Int), s.ok → 1 ≤ n → n ≤ 3 → ∃ (t : Tr) (s' : Rnd), Tr.wf 3 t ∧ s'.ok ∧ C.call 31 [.obj l, .int n] (M.set l (.lst s.d)) = .ok t.d (M.set l (.lst s'.d)))
    (C32 : ∀ t M, Tr.wf 3 t → pcall C 32 [t.d] M = .ok (.int t.weight) M) (C33 : ∀ t M, Tr.wf 3 t → pcall C 33 [t.d] M = .ok (.int t.units) M) (C34 : ∀ t M, Tr.wf 3 t → pcall C 34 [t.d] M = .ok (.int t.bnd) M)
    (s : Rnd) (ok : s.ok) (x1 x2 : Option D) : ∃ s' : Rnd, s'.ok ∧ ((∃ t, Tr.good t ∧ exS C patB [some (.obj l), x1, x2] (M.set l (.lst s.d)) = .rt t.d (M.set l (.lst s'.d))) ∨ (∃ x2', exS C patB [some (.obj l), x1, x2] (M.set l (.lst s.d)) = .nx [some (.obj l), x1, x2'] (M.set l (.lst s'.d)))) := by
  have d3 := C28 s 3 ok (by decide) (by decide)
  have o3 := out_ok (s := s) (n := 3) (by decide)
  have ok1 := next_ok' (n := 3) ok
  obtain ⟨t, s', wt, ok', et⟩ := C31 (s.next 3) (1 + s.out 3) ok1 (by omega) (by omega)
  refine ⟨s', ok', ?_⟩
  have c32 := fun M => C32 t M wt
  have c33 := fun M => C33 t M wt
  have c34 := fun M => C34 t M wt
  have pv : D.pureL [t.d] = true := by simp only [D.pureL, ok_pure (wf_ok wt), Bool.and_true]
  have e1 : exS C (.set (.nm 2) (.call 31 (.cons (.var 0) (.cons (.bin .add (.cI 1) (.call 28 (.cons (.var 0) (.cons (.cI 3) .nil)))) .nil)))) [some (.obj l), x1, x2] (M.set l (.lst s.d)) = .nx [some (.obj l), x1, some t.d] (M.set l (.lst s'.d)) := by
    simp only [q_set, q_call g31, q_call g28, q_cons, q_nil, q_var, q_bin, q_cI, bop_add, d3, et, Tg.to, List.set_cons_succ, List.set_cons_zero, List.getElem?_cons_succ, List.getElem?_cons_zero]
  have e2 : ∀ M, evE C (.and (.cmp .le (.pcall 32 (.cons (.var 2) .nil)) (.cI 60)) (.and (.cmp .le (.pcall 33 (.cons (.var 2) .nil)) (.cI 25)) (.cmp .le (.pcall 34 (.cons (.var 2) .nil)) (.cI 40)))) [some (.obj l), x1, some t.d] M = .ok (.bl (decide (t.weight ≤ 60) && (decide (t.units ≤ 25) && decide ((t.bnd : Int) ≤ 40)))) M := fun M => by
    simp only [q_and, q_cmp, q_pcall g32, q_pcall g33, q_pcall g34, q_cons, q_nil, q_var, q_cI, cop_le, pv, c32, c33, c34, List.getElem?_cons_succ, List.getElem?_cons_zero, ↓reduceIte]
    by_cases a : t.weight ≤ 60
    · by_cases b : t.units ≤ 25
      · simp only [a, b, decide_true, Bool.true_and]
      · simp only [a, b, decide_true, decide_false, Bool.true_and, Bool.false_and]
    · simp only [a, decide_false, Bool.false_and]
  unfold patB
  generalize Ex.and (.cmp .le (.pcall 32 (.cons (.var 2) .nil)) (.cI 60)) (.and (.cmp .le (.pcall 33 (.cons (.var 2) .nil)) (.cI 25)) (.cmp .le (.pcall 34 (.cons (.var 2) .nil)) (.cI 40))) = X at e2 ⊢
  rw [q_seq, e1]
  by_cases q : (decide (t.weight ≤ 60) && (decide (t.units ≤ 25) && decide ((t.bnd : Int) ≤ 40))) = true
  · left
    have q' := q
    rw [Bool.and_eq_true, Bool.and_eq_true, decide_eq_true_iff, decide_eq_true_iff, decide_eq_true_iff] at q'
    refine ⟨t, ⟨wt, q'.1, q'.2.1, by omega⟩, ?_⟩
    rw [q] at e2
    show exS C (.seq _ _) _ _ = _
    rw [q_seq, q_if, e2]
    rfl
  · right
    rw [Bool.not_eq_true] at q
    rw [q] at e2
    refine ⟨some t.d, ?_⟩
    show exS C (.seq _ _) _ _ = _
    rw [q_seq, q_if, e2]
    rfl
theorem pat_loop {C : Cn} (F : ∀ (s : Rnd) (x1 x2 : Option D), s.ok → ∃ s' : Rnd, s'.ok ∧ ((∃ t, Tr.good t ∧ exS C patB [some (.obj l), x1, x2] (M.set l (.lst s.d)) = .rt t.d (M.set l (.lst s'.d))) ∨ (∃ x2', exS C patB [some (.obj l), x1, x2] (M.set l (.lst s.d)) = .nx [some (.obj l), x1, x2'] (M.set l (.lst s'.d))))) :
    ∀ (xs : List D) (s : Rnd) (x1 x2 : Option D), s.ok → ∃ s' : Rnd, s'.ok ∧ ((∃ t, Tr.good t ∧ foldO (.nm 1) (exS C patB) xs [some (.obj l), x1, x2] (M.set l (.lst s.d)) = .rt t.d (M.set l (.lst s'.d))) ∨ (∃ r', foldO (.nm 1) (exS C patB) xs [some (.obj l), x1, x2] (M.set l (.lst s.d)) = .nx r' (M.set l (.lst s'.d))))
  | [], s, x1, x2, ok => ⟨s, ok, .inr ⟨_, rfl⟩⟩
  | x :: xs, s, x1, x2, ok => by
    obtain ⟨s1, ok1, h⟩ := F s (some x) x2 ok
    rcases h with ⟨t, gt, e⟩ | ⟨x2', e⟩
    · refine ⟨s1, ok1, .inl ⟨t, gt, ?_⟩⟩
      simp only [foldO, Tg.to, List.set_cons_succ, List.set_cons_zero, e]
    · obtain ⟨s2, ok2, h⟩ := pat_loop F xs s1 (some x) x2' ok1
      refine ⟨s2, ok2, ?_⟩
      simp only [foldO, Tg.to, List.set_cons_succ, List.set_cons_zero, e]
      exact h
theorem pattern_run (H : PatP P) (hl : l < M.length) (k : Nat) (s : Rnd) (ok : s.ok) : ∃ (t : Tr) (s' : Rnd), Tr.good t ∧ s'.ok ∧
    runF P (k + 7) 35 [.obj l] (M.set l (.lst s.d)) = .ok t.d (M.set l (.lst s'.d)) := by
  rw [run_eq H.pattern rfl]
  have C28 := fun (s : Rnd) (n' : Int) (ok : s.ok) (hn : 0 < n') (hs : n'.natAbs.log2 < 9000) => draw (k := k + 5) H.below hl ok hn hs
  have C31 : ∀ (s : Rnd) (n : Int), s.ok → 1 ≤ n → n ≤ 3 → ∃ (t : Tr) (s' : Rnd), Tr.wf 3 t ∧ s'.ok ∧ (P.cn (runF P (k + 6))).call 31 [.obj l, .int n] (M.set l (.lst s.d)) = .ok t.d (M.set l (.lst s'.d)) := fun s n ok h1 h3 => by
    obtain ⟨m, em⟩ := Int.eq_ofNat_of_zero_le (show 0 ≤ n by omega)
    obtain ⟨t, s', wt, ok', e⟩ := tree_run H.toTreeP hl m (k + (3 - m)) s ok
    refine ⟨t, s', wf_mono wt (by omega), ok', ?_⟩
    rw [show k + (3 - m) + m + 3 = k + 6 by omega] at e
    rw [em]
    exact e
  have w3 : ∀ t, Tr.wf 3 t → t.weight < 2 ^ 1000 := fun t h => by
    have := weight_le h
    omega
  have C32 : ∀ t M, Tr.wf 3 t → pcall (P.cn (runF P (k + 6))) 32 [t.d] M = .ok (.int t.weight) M := fun t M h => pcall_run (weight_run H.weight H.g32 3 (k + 2) t [] (wf_ok h) (w3 t h)) rfl
  have C33 : ∀ t M, Tr.wf 3 t → pcall (P.cn (runF P (k + 6))) 33 [t.d] M = .ok (.int t.units) M := fun t M h => pcall_run (units_run H.units H.g33 3 (k + 2) t [] (wf_ok h)) rfl
  have C34 : ∀ t M, Tr.wf 3 t → pcall (P.cn (runF P (k + 6))) 34 [t.d] M = .ok (.int t.bnd) M := fun t M h => pcall_run (bound_run H.bound H.g34 H.common H.g29 3 (k + 1) t [] (by decide) h) rfl
  have F := fun (s : Rnd) (x1 x2 : Option D) (ok : s.ok) => pat_step (C := P.cn (runF P (k + 6))) (M := M) (l := l) H.g28 H.g31 H.g32 H.g33 H.g34 C28 C31 C32 C33 C34 s ok x1 x2
  generalize P.cn (runF P (k + 6)) = C at F
  show ∃ (t : Tr) (s' : Rnd), _ ∧ _ ∧ (exS C Bd.b35 [some (.obj l), none, none] _).res = _
  have ev : evI C (.rng1 (.cI 6)) [some (.obj l), none, none] (M.set l (.lst s.d)) = .ok (.fix 0 6) (M.set l (.lst s.d)) := rfl
  obtain ⟨s1, ok1, h⟩ := pat_loop F ((List.range 6).map fun i : Nat => .int (0 + i)) s none none ok
  have hf := q_for (g := .nm 1) (s := patB) ev rfl
  rcases h with ⟨t, gt, e⟩ | ⟨r', e⟩
  · rw [e] at hf
    refine ⟨t, s1, gt, ok1, ?_⟩
    unfold Bd.b35
    show (exS C (.seq (.for_ (.nm 1) (.rng1 (.cI 6)) patB) _) _ _).res = _
    rw [q_seq, hf]
    rfl
  · rw [e] at hf
    refine ⟨.turn [.word [97], .rest], s1, ⟨⟨by decide, by decide, by simp [words, Tr.wf], trivial, trivial⟩, by decide, by decide, by decide⟩, ok1, ?_⟩
    unfold Bd.b35
    show (exS C (.seq (.for_ (.nm 1) (.rng1 (.cI 6)) patB) _) _ _).res = _
    rw [q_seq, hf]
    rfl
end
end Cy
end

section
set_option linter.all false
set_option maxRecDepth 100000
set_option maxHeartbeats 4000000
/-! Plain: the canonical text of a tree: the law's, the program's. -/
namespace Cy
mutual
def Tr.text : Tr → List Nat
  | .word w => w
  | .rest => [95]
  | .row ts => [40] ++ joinT [32] (Tr.textL ts) ++ [41]
  | .lay ts => [91] ++ joinT [32, 43, 32] (Tr.textL ts) ++ [93]
  | .turn ts => [123] ++ joinT [32] (Tr.textL ts) ++ [125]
  | .fast n t => t.text ++ [94] ++ numT n
  | .slow n t => t.text ++ [58] ++ numT n
  | .shift a b t => [108, 97, 116, 101, 40] ++ numT a ++ [47] ++ numT b ++ [44, 32] ++ t.text ++ [41]
  | .rev t => [109, 105, 114, 114, 111, 114, 40] ++ t.text ++ [41]
  | .every n t u => [101, 97, 99, 104, 40] ++ numT n ++ [44, 32] ++ t.text ++ [44, 32] ++ u.text ++ [41]
def Tr.textL : List Tr → List (List Nat)
  | [] => []
  | t :: ts => t.text :: Tr.textL ts
end
theorem textL_map : ∀ ts : List Tr, Tr.textL ts = ts.map Tr.text
  | [] => rfl
  | t :: ts => by rw [Tr.textL, textL_map ts]; rfl
theorem join_len {s : List Nat} : ∀ {xs : List (List Nat)}, xs ≠ [] → (joinT s xs).length + s.length = (xs.map List.length).sum + xs.length * s.length
  | [], h => absurd rfl h
  | [x], _ => by simp [joinT]
  | x :: y :: r, _ => by
    have := join_len (s := s) (xs := y :: r) (by simp)
    simp only [joinT, List.length_append, List.map_cons, List.sum_cons, List.length_cons] at this ⊢
    have e : (r.length + 1 + 1) * s.length = (r.length + 1) * s.length + s.length := Nat.succ_mul _ _
    omega
theorem len_mem {xs : List (List Nat)} {x : List Nat} (h : x ∈ xs) : x.length ≤ (xs.map List.length).sum := by
  induction xs with
  | nil => simp at h
  | cons y ys ih =>
    rw [List.map_cons, List.sum_cons]
    cases List.mem_cons.mp h with
    | inl e => subst e; omega
    | inr e => have := ih e; omega
theorem join_ok {s : List Nat} {ts : List Tr} (ne : ts ≠ []) (hs : s.length ≤ 3) (h : (joinT s (Tr.textL ts)).length ≤ 2 ^ 20) :
    ((ts.map Tr.text).map List.length).sum + ts.length * s.length ≤ top ∧ ∀ t ∈ ts, t.text.length ≤ 2 ^ 20 := by
  rw [textL_map] at h
  by_cases s0 : s.length = 0
  · have e := join_len (s := s) (xs := ts.map Tr.text) (by simpa using ne)
    rw [s0] at e
    rw [s0]
    refine ⟨by unfold top; omega, fun t ht => ?_⟩
    have := len_mem (xs := ts.map Tr.text) (List.mem_map_of_mem ht)
    omega
  · have e := join_len (s := s) (xs := ts.map Tr.text) (by simpa using ne)
    rw [List.length_map] at e
    have z : 0 < ts.length := List.length_pos_iff.mpr ne
    have z2 : s.length ≤ ts.length * s.length := Nat.le_mul_of_pos_left _ z
    refine ⟨by unfold top; omega, fun t ht => ?_⟩
    have := len_mem (xs := ts.map Tr.text) (List.mem_map_of_mem ht)
    omega
theorem text_run {P : Prog} (h : P.fn 27 = some Bd.f27) (g : P.glob 27 = true) : ∀ (n k : Nat) (t : Tr) (M : Mem), Tr.ok n t → t.text.length ≤ 2 ^ 20 → runF P (k + n + 1) 27 [t.d] M = .ok (.str t.text) M := by
  intro n
  induction n with
  | zero =>
    intro k t M ok _
    rw [run_eq h rfl]
    cases t <;> first | rfl | exact ok.elim
  | succ n ih =>
    intro k t M ok hl
    rw [run_eq h rfl]
    have C27 : ∀ t M, Tr.ok n t → t.text.length ≤ 2 ^ 20 → pcall (P.cn (runF P (k + (n + 1)))) 27 [t.d] M = .ok (.str t.text) M := fun t M ok hw => pcall_run (ih k t [] ok hw) rfl
    have g27 : (P.cn (runF P (k + (n + 1)))).has 27 = true := g
    generalize P.cn (runF P (k + (n + 1))) = C at C27 g27
    show (exS C Bd.b27 [some t.d, none, none, none, none, none] M).res = _
    have W : ∀ (p q : D) (ts : List Tr), ts.length ≤ 1000000 → (∀ t ∈ ts, Tr.ok n t) → (∀ t ∈ ts, t.text.length ≤ 2 ^ 20) →
        evE C (.comp false (.nm 5) (.src (.var 4)) (.cB true) (.pcall 27 (.cons (.var 5) .nil))) [some (.tup [p, q, .lst (Tr.dL ts)]), none, some p, some q, some (.lst (Tr.dL ts)), none] M = .ok (.lst (ts.map fun t => .str t.text)) M := fun p q ts hl hs hw => by
      refine comp_pcall (p := Tr.d) (src := .live (.lst (Tr.dL ts))) (by simp) g27 (fun t ht => ⟨C27 t M (hs t ht) (hw t ht), ok_pure (hs t ht)⟩) ?_ ?_ (by unfold top; omega)
      · rfl
      · rw [dL_map]; rfl
    cases t with
    | word w => rfl
    | rest => rfl
    | row ts =>
      have hl : ([40] ++ joinT [32] (Tr.textL ts) ++ [41]).length ≤ 2 ^ 20 := hl
      simp only [List.length_append, List.length_cons, List.length_nil] at hl
      obtain ⟨j1, j2⟩ := join_ok (s := [32]) ok.1 (by decide) (by omega)
      have w := W (.str [114, 111, 119]) (.int 0) ts ok.2.1 ok.2.2 j2
      unfold Bd.b27
      show (exS C _ [some (.tup [.str [114, 111, 119], .int 0, .lst (Tr.dL ts)]), none, none, none, none, none] M).res = .ok (.str ([40] ++ joinT [32] (Tr.textL ts) ++ [41])) M
      rw [tree_head (u := []) w, textL_map]
      rw [textL_map] at hl
      rw [xs_iff rfl, xs_iff rfl, xs_iff rfl, xs_ift rfl (xe_cat (xe_cat (p := [40]) rfl (xe_join (g := Tr.text) (ts := ts) rfl rfl j1) ?_) (q := [41]) rfl ?_)]
      · rfl
      all_goals (simp only [List.length_append, List.length_cons, List.length_nil]; unfold top; omega)
    | lay ts =>
      have hl : ([91] ++ joinT [32, 43, 32] (Tr.textL ts) ++ [93]).length ≤ 2 ^ 20 := hl
      simp only [List.length_append, List.length_cons, List.length_nil] at hl
      obtain ⟨j1, j2⟩ := join_ok (s := [32, 43, 32]) ok.1 (by decide) (by omega)
      have w := W (.str [108, 97, 121, 101, 114, 115]) (.int 0) ts ok.2.1 ok.2.2 j2
      unfold Bd.b27
      show (exS C _ [some (.tup [.str [108, 97, 121, 101, 114, 115], .int 0, .lst (Tr.dL ts)]), none, none, none, none, none] M).res = .ok (.str ([91] ++ joinT [32, 43, 32] (Tr.textL ts) ++ [93])) M
      rw [tree_head (u := []) w, textL_map]
      rw [textL_map] at hl
      rw [xs_iff rfl, xs_iff rfl, xs_ift rfl (xe_cat (xe_cat (p := [91]) rfl (xe_join (g := Tr.text) (ts := ts) rfl rfl j1) ?_) (q := [93]) rfl ?_)]
      · rfl
      all_goals (simp only [List.length_append, List.length_cons, List.length_nil]; unfold top; omega)
    | turn ts =>
      have hl : ([123] ++ joinT [32] (Tr.textL ts) ++ [125]).length ≤ 2 ^ 20 := hl
      simp only [List.length_append, List.length_cons, List.length_nil] at hl
      obtain ⟨j1, j2⟩ := join_ok (s := [32]) ok.1 (by decide) (by omega)
      have w := W (.str [116, 117, 114, 110, 115]) (.int 0) ts ok.2.1 ok.2.2 j2
      unfold Bd.b27
      show (exS C _ [some (.tup [.str [116, 117, 114, 110, 115], .int 0, .lst (Tr.dL ts)]), none, none, none, none, none] M).res = .ok (.str ([123] ++ joinT [32] (Tr.textL ts) ++ [125])) M
      rw [tree_head (u := []) w, textL_map]
      rw [textL_map] at hl
      rw [xs_iff rfl, xs_iff rfl, xs_iff rfl, xs_ift rfl (xe_cat (xe_cat (p := [123]) rfl (xe_join (g := Tr.text) (ts := ts) rfl rfl j1) ?_) (q := [125]) rfl ?_)]
      · rfl
      all_goals (simp only [List.length_append, List.length_cons, List.length_nil]; unfold top; omega)
    | fast m t =>
      have hl : (t.text ++ [94] ++ numT m).length ≤ 2 ^ 20 := hl
      simp only [List.length_append, List.length_cons, List.length_nil] at hl
      have w := W (.str [102, 97, 115, 116]) (.int m) [t] (by simp) (mem1 ok.2) (mem1 (by omega))
      unfold Bd.b27
      show (exS C _ [some (.tup [.str [102, 97, 115, 116], .int m, .lst (Tr.dL [t])]), none, none, none, none, none] M).res = .ok (.str (t.text ++ [94] ++ numT m)) M
      rw [tree_head (u := []) w]
      rw [xs_iff rfl, xs_iff rfl, xs_iff rfl, xs_iff rfl, xs_ift rfl (xe_cat (xe_cat (p := t.text) (q := [94]) rfl rfl ?_) (xe_str (n := m) rfl (by have := ok.1; omega)) ?_)]
      · rfl
      all_goals (simp only [List.length_append, List.length_cons, List.length_nil]; unfold top; omega)
    | slow m t =>
      have hl : (t.text ++ [58] ++ numT m).length ≤ 2 ^ 20 := hl
      simp only [List.length_append, List.length_cons, List.length_nil] at hl
      have w := W (.str [115, 108, 111, 119]) (.int m) [t] (by simp) (mem1 ok.2) (mem1 (by omega))
      unfold Bd.b27
      show (exS C _ [some (.tup [.str [115, 108, 111, 119], .int m, .lst (Tr.dL [t])]), none, none, none, none, none] M).res = .ok (.str (t.text ++ [58] ++ numT m)) M
      rw [tree_head (u := []) w]
      rw [xs_iff rfl, xs_iff rfl, xs_iff rfl, xs_iff rfl, xs_ift rfl (xe_cat (xe_cat (p := t.text) (q := [58]) rfl rfl ?_) (xe_str (n := m) rfl (by have := ok.1; omega)) ?_)]
      · rfl
      all_goals (simp only [List.length_append, List.length_cons, List.length_nil]; unfold top; omega)
    | shift a b t =>
      have hl : ([108, 97, 116, 101, 40] ++ numT a ++ [47] ++ numT b ++ [44, 32] ++ t.text ++ [41]).length ≤ 2 ^ 20 := hl
      simp only [List.length_append, List.length_cons, List.length_nil] at hl
      have w := W (.str [115, 104, 105, 102, 116]) (.tup [.int a, .int b]) [t] (by simp) (mem1 ok.2) (mem1 (by omega))
      unfold Bd.b27
      show (exS C _ [some (.tup [.str [115, 104, 105, 102, 116], .tup [.int a, .int b], .lst (Tr.dL [t])]), none, none, none, none, none] M).res = .ok (.str ([108, 97, 116, 101, 40] ++ numT a ++ [47] ++ numT b ++ [44, 32] ++ t.text ++ [41])) M
      rw [tree_head (u := []) w]
      rw [xs_iff rfl, xs_iff rfl, xs_iff rfl, xs_iff rfl, xs_iff rfl, xs_ift rfl (xe_cat (xe_cat (xe_cat (xe_cat (xe_cat (xe_cat (p := [108, 97, 116, 101, 40]) rfl (xe_str (n := a) rfl (by have := ok.1; omega)) ?_) (q := [47]) rfl ?_) (xe_str (n := b) rfl (by have := ok.1; omega)) ?_) (q := [44, 32]) rfl ?_) (q := t.text) rfl ?_) (q := [41]) rfl ?_)]
      · rfl
      all_goals (simp only [List.length_append, List.length_cons, List.length_nil]; unfold top; omega)
    | rev t =>
      have hl : ([109, 105, 114, 114, 111, 114, 40] ++ t.text ++ [41]).length ≤ 2 ^ 20 := hl
      simp only [List.length_append, List.length_cons, List.length_nil] at hl
      have w := W (.str [114, 101, 118]) (.int 0) [t] (by simp) (mem1 ok) (mem1 (by omega))
      unfold Bd.b27
      show (exS C _ [some (.tup [.str [114, 101, 118], .int 0, .lst (Tr.dL [t])]), none, none, none, none, none] M).res = .ok (.str ([109, 105, 114, 114, 111, 114, 40] ++ t.text ++ [41])) M
      rw [tree_head (u := []) w]
      rw [xs_iff rfl, xs_iff rfl, xs_iff rfl, xs_iff rfl, xs_iff rfl, xs_iff rfl, xs_ret (xe_iteT rfl (xe_cat (xe_cat (p := [109, 105, 114, 114, 111, 114, 40]) rfl (q := t.text) rfl ?_) (q := [41]) rfl ?_))]
      · rfl
      all_goals (simp only [List.length_append, List.length_cons, List.length_nil]; unfold top; omega)
    | every m t u =>
      have hl : ([101, 97, 99, 104, 40] ++ numT m ++ [44, 32] ++ t.text ++ [44, 32] ++ u.text ++ [41]).length ≤ 2 ^ 20 := hl
      simp only [List.length_append, List.length_cons, List.length_nil] at hl
      have w := W (.str [101, 118, 101, 114, 121]) (.int m) [t, u] (by simp) (mem2 ok.2.1 ok.2.2) (mem2 (by omega) (by omega))
      unfold Bd.b27
      show (exS C _ [some (.tup [.str [101, 118, 101, 114, 121], .int m, .lst (Tr.dL [t, u])]), none, none, none, none, none] M).res = .ok (.str ([101, 97, 99, 104, 40] ++ numT m ++ [44, 32] ++ t.text ++ [44, 32] ++ u.text ++ [41])) M
      rw [tree_head (u := []) w]
      rw [xs_iff rfl, xs_iff rfl, xs_iff rfl, xs_iff rfl, xs_iff rfl, xs_iff rfl, xs_ret (xe_iteF rfl (xe_cat (xe_cat (xe_cat (xe_cat (p := [101, 97, 99, 104, 40]) rfl (xe_str (n := m) rfl (by have := ok.1; omega)) ?_) (q := [44, 32]) rfl ?_) (xe_join (p := [44, 32]) (g := Tr.text) (ts := [t, u]) rfl rfl ?_) ?_) (q := [41]) rfl ?_))]
      · simp only [Oc.res, List.map_cons, List.map_nil, joinT, List.append_assoc]
      all_goals (simp only [List.length_append, List.length_cons, List.length_nil, List.map_cons, List.map_nil, joinT, List.sum_cons, List.sum_nil]; unfold top; omega)
end Cy
end

section
set_option linter.all false
set_option maxRecDepth 100000
set_option maxHeartbeats 4000000
/-! Plain: format_tree gives the canonical text. -/
namespace Cy
def brackets : D := .dct [[114, 111, 119], [108, 97, 121, 101, 114, 115], [116, 117, 114, 110, 115]] [.str [40, 41], .str [91, 93], .str [123, 125]]
theorem format_run {P : Prog} (h : P.fn 23 = some Bd.f23) (g : P.glob 23 = true) (hc : P.con 193 = some brackets) : ∀ (n k : Nat) (t : Tr) (M : Mem), Tr.ok n t → t.text.length ≤ 2 ^ 20 → runF P (k + n + 1) 23 [t.p] M = .ok (.str t.text) M := by
  intro n
  induction n with
  | zero =>
    intro k t M ok _
    rw [run_eq h rfl]
    cases t <;> first | rfl | exact ok.elim
  | succ n ih =>
    intro k t M ok hl
    rw [run_eq h rfl]
    have C23 : ∀ t M, Tr.ok n t → t.text.length ≤ 2 ^ 20 → pcall (P.cn (runF P (k + (n + 1)))) 23 [t.p] M = .ok (.str t.text) M := fun t M ok hw => pcall_run (ih k t [] ok hw) rfl
    have g23 : (P.cn (runF P (k + (n + 1)))).has 23 = true := g
    have hc : (P.cn (runF P (k + (n + 1)))).con 193 = some brackets := hc
    generalize P.cn (runF P (k + (n + 1))) = C at C23 g23 hc
    show (exS C Bd.b23 [some t.p, none, none, none, none, none, none] M).res = _
    have W : ∀ (p q : D) (ts : List Tr), ts.length ≤ 1000000 → (∀ t ∈ ts, Tr.ok n t) → (∀ t ∈ ts, t.text.length ≤ 2 ^ 20) →
        evE C (.comp false (.nm 6) (.src (.var 4)) (.cB true) (.pcall 23 (.cons (.var 6) .nil))) [some (.tup [p, q, .tup (Tr.pL ts)]), none, some p, some q, some (.tup (Tr.pL ts)), none, none] M = .ok (.lst (ts.map fun t => .str t.text)) M := fun p q ts hl hs hw => by
      refine comp_pcall (p := Tr.p) (src := .live (.tup (Tr.pL ts))) (by simp) g23 (fun t ht => ⟨C23 t M (hs t ht) (hw t ht), ok_pureP (hs t ht)⟩) ?_ ?_ (by unfold top; omega)
      · rfl
      · rw [pL_map]; rfl
    have B : ∀ (r : Env) (kd : List Nat) (b : Bool), r[2]? = some (some (.str kd)) → cop .inn (.str kd) brackets M = some b → evE C (.cmp .inn (.var 2) (.gl 193)) r M = .ok (.bl b) M := fun r kd b hr hb => xe_cmp (xe_var hr) (xe_gl hc) hb
    have B2 : ∀ (r : Env) (kd : List Nat) (x y z : D) (i : Int), r[2]? = some (some (.str kd)) → index brackets (.str kd) = some (.str [40, 41]) → True := fun _ _ _ _ _ _ _ _ => trivial
    have Bi : ∀ (r : Env) (kd z c : List Nat) (i : Int), r[2]? = some (some (.str kd)) → index brackets (.str kd) = some (.str z) → index (.str z) (.int i) = some (.str c) → evE C (.idx (.idx (.gl 193) (.var 2)) (.cI i)) r M = .ok (.str c) M := fun r kd z c i hr h1 h2 => xe_idx (xe_idx (xe_gl hc) (xe_var hr) h1) rfl h2
    cases t with
    | word w => rfl
    | rest => rfl
    | row ts =>
      have hl : ([40] ++ joinT [32] (Tr.textL ts) ++ [41]).length ≤ 2 ^ 20 := hl
      simp only [List.length_append, List.length_cons, List.length_nil] at hl
      obtain ⟨j1, j2⟩ := join_ok (s := [32]) ok.1 (by decide) (by omega)
      have w := W (.str [114, 111, 119]) .non ts ok.2.1 ok.2.2 j2
      unfold Bd.b23
      show (exS C _ [some (.tup [.str [114, 111, 119], .non, .tup (Tr.pL ts)]), none, none, none, none, none, none] M).res = .ok (.str ([40] ++ joinT [32] (Tr.textL ts) ++ [41])) M
      rw [tree_head (u := []) w, textL_map]
      rw [textL_map] at hl
      rw [xs_iff rfl, xs_iff rfl, xs_ift2 (B _ _ true rfl rfl) ((xs_set (x := .str [32]) rfl).trans (xs_ret (xe_cat (xe_cat (p := [40]) (Bi _ _ [40, 41] _ 0 rfl rfl rfl) (xe_join (g := Tr.text) (ts := ts) rfl rfl j1) ?_) (q := [41]) (Bi _ _ [40, 41] _ 1 rfl rfl rfl) ?_)))]
      · rfl
      all_goals (simp only [List.length_append, List.length_cons, List.length_nil]; unfold top; omega)
    | lay ts =>
      have hl : ([91] ++ joinT [32, 43, 32] (Tr.textL ts) ++ [93]).length ≤ 2 ^ 20 := hl
      simp only [List.length_append, List.length_cons, List.length_nil] at hl
      obtain ⟨j1, j2⟩ := join_ok (s := [32, 43, 32]) ok.1 (by decide) (by omega)
      have w := W (.str [108, 97, 121, 101, 114, 115]) .non ts ok.2.1 ok.2.2 j2
      unfold Bd.b23
      show (exS C _ [some (.tup [.str [108, 97, 121, 101, 114, 115], .non, .tup (Tr.pL ts)]), none, none, none, none, none, none] M).res = .ok (.str ([91] ++ joinT [32, 43, 32] (Tr.textL ts) ++ [93])) M
      rw [tree_head (u := []) w, textL_map]
      rw [textL_map] at hl
      rw [xs_iff rfl, xs_iff rfl, xs_ift2 (B _ _ true rfl rfl) ((xs_set (x := .str [32, 43, 32]) rfl).trans (xs_ret (xe_cat (xe_cat (p := [91]) (Bi _ _ [91, 93] _ 0 rfl rfl rfl) (xe_join (g := Tr.text) (ts := ts) rfl rfl j1) ?_) (q := [93]) (Bi _ _ [91, 93] _ 1 rfl rfl rfl) ?_)))]
      · rfl
      all_goals (simp only [List.length_append, List.length_cons, List.length_nil]; unfold top; omega)
    | turn ts =>
      have hl : ([123] ++ joinT [32] (Tr.textL ts) ++ [125]).length ≤ 2 ^ 20 := hl
      simp only [List.length_append, List.length_cons, List.length_nil] at hl
      obtain ⟨j1, j2⟩ := join_ok (s := [32]) ok.1 (by decide) (by omega)
      have w := W (.str [116, 117, 114, 110, 115]) .non ts ok.2.1 ok.2.2 j2
      unfold Bd.b23
      show (exS C _ [some (.tup [.str [116, 117, 114, 110, 115], .non, .tup (Tr.pL ts)]), none, none, none, none, none, none] M).res = .ok (.str ([123] ++ joinT [32] (Tr.textL ts) ++ [125])) M
      rw [tree_head (u := []) w, textL_map]
      rw [textL_map] at hl
      rw [xs_iff rfl, xs_iff rfl, xs_ift2 (B _ _ true rfl rfl) ((xs_set (x := .str [32]) rfl).trans (xs_ret (xe_cat (xe_cat (p := [123]) (Bi _ _ [123, 125] _ 0 rfl rfl rfl) (xe_join (g := Tr.text) (ts := ts) rfl rfl j1) ?_) (q := [125]) (Bi _ _ [123, 125] _ 1 rfl rfl rfl) ?_)))]
      · rfl
      all_goals (simp only [List.length_append, List.length_cons, List.length_nil]; unfold top; omega)
    | fast m t =>
      have hl : (t.text ++ [94] ++ numT m).length ≤ 2 ^ 20 := hl
      simp only [List.length_append, List.length_cons, List.length_nil] at hl
      have w := W (.str [102, 97, 115, 116]) (.int m) [t] (by simp) (mem1 ok.2) (mem1 (by omega))
      unfold Bd.b23
      show (exS C _ [some (.tup [.str [102, 97, 115, 116], .int m, .tup (Tr.pL [t])]), none, none, none, none, none, none] M).res = .ok (.str (t.text ++ [94] ++ numT m)) M
      rw [tree_head (u := []) w]
      rw [xs_iff rfl, xs_iff rfl, xs_iff (B _ _ false rfl rfl), xs_ift rfl (xe_cat (xe_cat (p := t.text) (q := [94]) rfl rfl ?_) (xe_str (n := m) rfl (by have := ok.1; omega)) ?_)]
      · rfl
      all_goals (simp only [List.length_append, List.length_cons, List.length_nil]; unfold top; omega)
    | slow m t =>
      have hl : (t.text ++ [58] ++ numT m).length ≤ 2 ^ 20 := hl
      simp only [List.length_append, List.length_cons, List.length_nil] at hl
      have w := W (.str [115, 108, 111, 119]) (.int m) [t] (by simp) (mem1 ok.2) (mem1 (by omega))
      unfold Bd.b23
      show (exS C _ [some (.tup [.str [115, 108, 111, 119], .int m, .tup (Tr.pL [t])]), none, none, none, none, none, none] M).res = .ok (.str (t.text ++ [58] ++ numT m)) M
      rw [tree_head (u := []) w]
      rw [xs_iff rfl, xs_iff rfl, xs_iff (B _ _ false rfl rfl), xs_ift rfl (xe_cat (xe_cat (p := t.text) (q := [58]) rfl rfl ?_) (xe_str (n := m) rfl (by have := ok.1; omega)) ?_)]
      · rfl
      all_goals (simp only [List.length_append, List.length_cons, List.length_nil]; unfold top; omega)
    | shift a b t =>
      have hl : ([108, 97, 116, 101, 40] ++ numT a ++ [47] ++ numT b ++ [44, 32] ++ t.text ++ [41]).length ≤ 2 ^ 20 := hl
      simp only [List.length_append, List.length_cons, List.length_nil] at hl
      have w := W (.str [108, 97, 116, 101]) (.tup [.int a, .int b]) [t] (by simp) (mem1 ok.2) (mem1 (by omega))
      unfold Bd.b23
      show (exS C _ [some (.tup [.str [108, 97, 116, 101], .tup [.int a, .int b], .tup (Tr.pL [t])]), none, none, none, none, none, none] M).res = .ok (.str ([108, 97, 116, 101, 40] ++ numT a ++ [47] ++ numT b ++ [44, 32] ++ t.text ++ [41])) M
      rw [tree_head (u := []) w]
      rw [xs_iff rfl, xs_iff rfl, xs_iff (B _ _ false rfl rfl), xs_iff rfl, xs_ift rfl (xe_cat (xe_cat (xe_cat (xe_cat (xe_cat (xe_cat (p := [108, 97, 116, 101, 40]) rfl (xe_str (n := a) rfl (by have := ok.1; omega)) ?_) (q := [47]) rfl ?_) (xe_str (n := b) rfl (by have := ok.1; omega)) ?_) (q := [44, 32]) rfl ?_) (q := t.text) rfl ?_) (q := [41]) rfl ?_)]
      · rfl
      all_goals (simp only [List.length_append, List.length_cons, List.length_nil]; unfold top; omega)
    | rev t =>
      have hl : ([109, 105, 114, 114, 111, 114, 40] ++ t.text ++ [41]).length ≤ 2 ^ 20 := hl
      simp only [List.length_append, List.length_cons, List.length_nil] at hl
      have w := W (.str [109, 105, 114, 114, 111, 114]) .non [t] (by simp) (mem1 ok) (mem1 (by omega))
      unfold Bd.b23
      show (exS C _ [some (.tup [.str [109, 105, 114, 114, 111, 114], .non, .tup (Tr.pL [t])]), none, none, none, none, none, none] M).res = .ok (.str ([109, 105, 114, 114, 111, 114, 40] ++ t.text ++ [41])) M
      rw [tree_head (u := []) w]
      rw [xs_iff rfl, xs_iff rfl, xs_iff (B _ _ false rfl rfl), xs_iff rfl, xs_iff rfl, xs_iff rfl, xs_ret (xe_cat (xe_cat (p := [109, 105, 114, 114, 111, 114, 40]) rfl (q := t.text) rfl ?_) (q := [41]) rfl ?_)]
      · rfl
      all_goals (simp only [List.length_append, List.length_cons, List.length_nil]; unfold top; omega)
    | every m t u =>
      have hl : ([101, 97, 99, 104, 40] ++ numT m ++ [44, 32] ++ t.text ++ [44, 32] ++ u.text ++ [41]).length ≤ 2 ^ 20 := hl
      simp only [List.length_append, List.length_cons, List.length_nil] at hl
      have w := W (.str [101, 97, 99, 104]) (.int m) [t, u] (by simp) (mem2 ok.2.1 ok.2.2) (mem2 (by omega) (by omega))
      unfold Bd.b23
      show (exS C _ [some (.tup [.str [101, 97, 99, 104], .int m, .tup (Tr.pL [t, u])]), none, none, none, none, none, none] M).res = .ok (.str ([101, 97, 99, 104, 40] ++ numT m ++ [44, 32] ++ t.text ++ [44, 32] ++ u.text ++ [41])) M
      rw [tree_head (u := []) w]
      rw [xs_iff rfl, xs_iff rfl, xs_iff (B _ _ false rfl rfl), xs_iff rfl, xs_iff rfl, xs_ift rfl (xe_cat (xe_cat (xe_cat (xe_cat (xe_cat (xe_cat (p := [101, 97, 99, 104, 40]) rfl (xe_str (n := m) rfl (by have := ok.1; omega)) ?_) (q := [44, 32]) rfl ?_) (q := t.text) rfl ?_) (q := [44, 32]) rfl ?_) (q := u.text) rfl ?_) (q := [41]) rfl ?_)]
      · rfl
      all_goals (simp only [List.length_append, List.length_cons, List.length_nil]; unfold top; omega)
end Cy
end

section
set_option linter.all false
set_option maxRecDepth 100000
set_option maxHeartbeats 4000000
/-! Plain: tokens. -/
namespace Cy
def letters : List Nat := [97, 98, 99, 100, 101, 102, 103, 104, 105, 106, 107, 108, 109, 110, 111, 112, 113, 114, 115, 116, 117, 118, 119, 120, 121, 122]
def digits : List Nat := [48, 49, 50, 51, 52, 53, 54, 55, 56, 57]
def symbols : List Nat := [95, 40, 41, 91, 93, 123, 125, 43, 94, 58, 47, 44]
/-- how many signs at the beginning are among some -/
def pre (z : List Nat) : List Nat → Nat
  | [] => 0
  | c :: r => if z.contains c then pre z r + 1 else 0
def tlen : List Nat → Nat
  | [] => 0
  | c :: r => if symbols.contains c then 1 else
    let n := pre (if letters.contains c then letters else digits) (c :: r)
    if (if letters.contains c then 8 else 3) < n then 0 else if 1 < n ∧ c = 48 then 0 else n
theorem pre_cons {z : List Nat} {c : Nat} {r : List Nat} : pre z (c :: r) = if z.contains c = true then pre z r + 1 else 0 := rfl
theorem tlen_cons {c : Nat} {r : List Nat} : tlen (c :: r) = if symbols.contains c = true then 1 else if (if letters.contains c = true then 8 else 3) < pre (if letters.contains c = true then letters else digits) (c :: r) then 0 else
    if 1 < pre (if letters.contains c = true then letters else digits) (c :: r) ∧ c = 48 then 0 else pre (if letters.contains c = true then letters else digits) (c :: r) := rfl
theorem pre_le {z : List Nat} : ∀ {s : List Nat}, pre z s ≤ s.length
  | [] => Nat.le_refl _
  | c :: r => by
    unfold pre
    split
    · exact Nat.succ_le_succ pre_le
    · exact Nat.zero_le _
structure TokP (P : Prog) : Prop where
  len : P.fn 8 = some Bd.f8
  tok : P.fn 9 = some Bd.f9
  g8 : P.glob 8 = true
  g9 : P.glob 9 = true
  letters : P.con 172 = some (.str letters)
  digits : P.con 173 = some (.str digits)
  symbols : P.con 174 = some (.str symbols)
  most : P.con 176 = some (.int 8)
  mostd : P.con 177 = some (.int 3)
section
variable {C : Cn} {r r' : Env} {M M1 : Mem} {c e : Ex} {b s : St} {n : Nat}
theorem w_end (h : evE C c r M = .ok (.bl false) M1) : loopW (evE C c) (exS C b) (n + 1) r M = .nx r M1 := by
  rw [loopW, h]
  rfl
theorem w_step (h : evE C c r M = .ok (.bl true) M) (k : exS C b r M = .nx r' M1) : loopW (evE C c) (exS C b) (n + 1) r M = loopW (evE C c) (exS C b) n r' M1 := by
  conv => lhs; rw [loopW, h]
  simp only [st_ok, k]
theorem w_ex {x : Exc} (h : evE C c r M = .ok (.bl true) M) (k : exS C b r M = .ex x r' M1) : loopW (evE C c) (exS C b) (n + 1) r M = .ex x r' M1 := by
  conv => lhs; rw [loopW, h]
  simp only [st_ok, k]
theorem w_rt {d : D} (h : evE C c r M = .ok (.bl true) M) (k : exS C b r M = .rt d M1) : loopW (evE C c) (exS C b) (n + 1) r M = .rt d M1 := by
  conv => lhs; rw [loopW, h]
  simp only [st_ok, k]
theorem xs_whl {m : Nat} (h : loopW (evE C c) (exS C b) m r M = .nx r' M1) : exS C (.seq (.whl m c b) s) r M = exS C s r' M1 := by
  rw [q_seq]
  rw [show exS C (.whl m c b) r M = _ from h]
theorem xe_andF {a d : Ex} (h : evE C a r M = .ok (.bl false) M1) : evE C (.and a d) r M = .ok (.bl false) M1 := by
  rw [q_and, h]
theorem xe_andT {a d : Ex} {x : Res D} (h : evE C a r M = .ok (.bl true) M1) (k : evE C d r M1 = x) : evE C (.and a d) r M = x := by
  rw [q_and, h]
  exact k
theorem xe_orT {a d : Ex} (h : evE C a r M = .ok (.bl true) M1) : evE C (.or a d) r M = .ok (.bl true) M1 := by
  rw [q_or, h]
theorem xe_orF {a d : Ex} {x : Res D} (h : evE C a r M = .ok (.bl false) M1) (k : evE C d r M1 = x) : evE C (.or a d) r M = x := by
  rw [q_or, h]
  exact k
theorem xs_aug {i : Nat} {x y : Int} (hr : r[i]? = some (some (.int x))) (h : evE C e r M = .ok (.int y) M1) : exS C (.aug .add i e) r M = .nx (r.set i (some (.int (x + y)))) M1 := by
  show (match r[i]? with
    | some (some x) => (evE C e r M).st r fun y M => (aop .add x y M).st r fun z M => Oc.nx (r.set i (some z)) M
    | _ => .bad) = _
  rw [hr]
  dsimp only
  rw [h]
  rfl
end
/-- a place in a text -/
theorem at_drop {s : List Nat} {c : Nat} {r : List Nat} {i : Nat} (h : s.drop i = c :: r) : i < s.length ∧ s[i]? = some c ∧ s.drop (i + 1) = r := by
  have hi : i < s.length := by
    rcases Nat.lt_or_ge i s.length with h1 | h1
    · exact h1
    · rw [List.drop_eq_nil_of_le h1] at h
      cases h
  rw [List.drop_eq_getElem_cons hi] at h
  cases h
  exact ⟨hi, List.getElem?_eq_getElem hi, rfl⟩
theorem str_at {s : List Nat} {c : Nat} {i : Nat} (h : s[i]? = some c) : index (.str s) (.int (i : Int)) = some (.str [c]) := by
  show (atI s (i : Int)).map (fun c => D.str [c]) = _
  rw [atI_nat, h]
  rfl
def tlC : Ex := .and (.cmp .lt (.bin .add (.var 1) (.var 4)) (.bi .len (.cons (.var 0) .nil))) (.cmp .inn (.idx (.var 0) (.bin .add (.var 1) (.var 4))) (.var 3))
def tlB : St := .seq (.aug .add 4 (.cI 1)) .nop
theorem tl_loop {C : Cn} {M : Mem} {text z : List Nat} {pl : Nat} {x2 : Option D} : ∀ (s : List Nat) (j n : Nat), text.drop (pl + j) = s → s.length < n →
    loopW (evE C tlC) (exS C tlB) n [some (.str text), some (.int pl), x2, some (.str z), some (.int j)] M = .nx [some (.str text), some (.int pl), x2, some (.str z), some (.int (j + pre z s : Nat))] M
  | [], j, n, h, hn => by
    obtain ⟨m, rfl⟩ : ∃ m, n = m + 1 := ⟨n - 1, by simp at hn; omega⟩
    have hl : text.length ≤ pl + j := by
      rcases Nat.lt_or_ge (pl + j) text.length with h1 | h1
      · rw [List.drop_eq_getElem_cons h1] at h
        cases h
      · exact h1
    refine w_end (xe_andF ?_)
    have e : decide ((pl : Int) + (j : Int) < (text.length : Int)) = false := decide_eq_false (by omega)
    simp only [q_cmp, q_bin, q_var, q_bi, q_cons, q_nil, List.getElem?_cons_succ, List.getElem?_cons_zero, bop_add, bi_len_str, cop_lt, e]
  | c :: s, j, n, h, hn => by
    obtain ⟨m, rfl⟩ : ∃ m, n = m + 1 := ⟨n - 1, by simp at hn; omega⟩
    obtain ⟨h1, h2, h3⟩ := at_drop h
    have e : decide ((pl : Int) + (j : Int) < (text.length : Int)) = true := decide_eq_true (by omega)
    have e2 : index (.str text) (.int ((pl : Int) + (j : Int))) = some (.str [c]) := by
      have := str_at h2
      rwa [Int.natCast_add] at this
    have cnd : evE C tlC [some (.str text), some (.int pl), x2, some (.str z), some (.int j)] M = .ok (.bl (z.contains c)) M := by
      refine xe_andT (M1 := M) ?_ ?_
      · simp only [q_cmp, q_bin, q_var, q_bi, q_cons, q_nil, List.getElem?_cons_succ, List.getElem?_cons_zero, bop_add, bi_len_str, cop_lt, e]
      · refine xe_cmp (xe_idx (xe_var rfl) (xe_bin (xe_var rfl) (xe_var rfl) rfl) e2) (xe_var rfl) rfl
    by_cases q : z.contains c = true
    · rw [q] at cnd
      rw [w_step cnd (show exS C tlB _ M = _ from by
        unfold tlB
        rw [q_seq, xs_aug rfl rfl]
        rfl)]
      have := tl_loop (C := C) (M := M) (z := z) (x2 := x2) s (j + 1) m h3 (by simp at hn; omega)
      show loopW (evE C tlC) (exS C tlB) m [some (.str text), some (.int pl), x2, some (.str z), some (.int ((j : Int) + 1))] M = _
      rw [show ((j : Int) + 1) = ((j + 1 : Nat) : Int) by omega, this]
      rw [pre_cons, if_pos q, show j + 1 + pre z s = j + (pre z s + 1) by omega]
    · rw [Bool.not_eq_true] at q
      rw [q] at cnd
      rw [w_end cnd]
      rw [pre_cons, if_neg (by rw [q]; decide)]
      rfl
theorem tlen_run {P : Prog} (H : TokP P) {text : List Nat} {pl : Nat} {c : Nat} {r : List Nat} (h : text.drop pl = c :: r) (hl : text.length < 1000000) (k : Nat) (M : Mem) :
    runF P (k + 1) 8 [.str text, .int pl] M = .ok (.int (tlen (c :: r) : Nat)) M := by
  rw [run_eq H.len rfl]
  have c1 : (P.cn (runF P k)).con 172 = some (.str letters) := H.letters
  have c2 : (P.cn (runF P k)).con 173 = some (.str digits) := H.digits
  have c3 : (P.cn (runF P k)).con 174 = some (.str symbols) := H.symbols
  have c4 : (P.cn (runF P k)).con 176 = some (.int 8) := H.most
  have c5 : (P.cn (runF P k)).con 177 = some (.int 3) := H.mostd
  generalize P.cn (runF P k) = C at c1 c2 c3 c4 c5
  obtain ⟨h1, h2, h3⟩ := at_drop h
  have i0 : ∀ r : Env, r[0]? = some (some (.str text)) → r[1]? = some (some (.int pl)) → evE C (.idx (.var 0) (.var 1)) r M = .ok (.str [c]) M := fun r a b => xe_idx (xe_var a) (xe_var b) (str_at h2)
  show (exS C Bd.b8 [some (.str text), some (.int pl), none, none, none] M).res = _
  unfold Bd.b8
  rw [xs_set (i0 _ rfl rfl)]
  show (exS C _ [some (.str text), some (.int pl), some (.str [c]), none, none] M).res = _
  have sy : ∀ r : Env, r[2]? = some (some (.str [c])) → evE C (.cmp .inn (.var 2) (.gl 174)) r M = .ok (.bl (symbols.contains c)) M := fun r a => xe_cmp (xe_var a) (xe_gl c3) rfl
  have le : ∀ r : Env, r[2]? = some (some (.str [c])) → evE C (.cmp .inn (.var 2) (.gl 172)) r M = .ok (.bl (letters.contains c)) M := fun r a => xe_cmp (xe_var a) (xe_gl c1) rfl
  rw [tlen_cons]
  by_cases q : symbols.contains c = true
  · rw [if_pos q]
    rw [xs_ift (x := .int 1) ((sy _ rfl).trans (by rw [q])) rfl]
    rfl
  · rw [if_neg q]
    rw [Bool.not_eq_true] at q
    rw [xs_iff ((sy _ rfl).trans (by rw [q]))]
    generalize hz : (if letters.contains c = true then letters else digits) = z
    generalize hm : (if letters.contains c = true then 8 else 3) = m
    have ez : ∀ r : Env, r[2]? = some (some (.str [c])) → evE C (.ite (.cmp .inn (.var 2) (.gl 172)) (.gl 172) (.gl 173)) r M = .ok (.str z) M := fun r a => by
      by_cases p : letters.contains c = true
      · rw [if_pos p] at hz
        rw [← hz]
        exact xe_iteT ((le r a).trans (by rw [p])) (xe_gl c1)
      · rw [if_neg p] at hz
        rw [Bool.not_eq_true] at p
        rw [← hz]
        exact xe_iteF ((le r a).trans (by rw [p])) (xe_gl c2)
    have em : ∀ r : Env, r[2]? = some (some (.str [c])) → evE C (.ite (.cmp .inn (.var 2) (.gl 172)) (.gl 176) (.gl 177)) r M = .ok (.int (m : Nat)) M := fun r a => by
      by_cases p : letters.contains c = true
      · rw [if_pos p] at hm
        rw [← hm]
        exact xe_iteT ((le r a).trans (by rw [p])) (xe_gl c4)
      · rw [if_neg p] at hm
        rw [Bool.not_eq_true] at p
        rw [← hm]
        exact xe_iteF ((le r a).trans (by rw [p])) (xe_gl c5)
    rw [xs_set (ez _ rfl)]
    show (exS C _ [some (.str text), some (.int pl), some (.str [c]), some (.str z), none] M).res = _
    rw [xs_set (x := .int 0) rfl]
    show (exS C (.seq (.whl 1000000 tlC tlB) _) [some (.str text), some (.int pl), some (.str [c]), some (.str z), some (.int ((0 : Nat) : Int))] M).res = _
    have lp := tl_loop (C := C) (M := M) (z := z) (x2 := some (.str [c])) (c :: r) 0 1000000 (by rw [Nat.add_zero]; exact h) (by
      have := congrArg List.length h
      rw [List.length_drop] at this
      omega)
    rw [Nat.zero_add] at lp
    rw [xs_whl lp]
    generalize pre z (c :: r) = n
    have cg : ∀ r : Env, r[2]? = some (some (.str [c])) → r[4]? = some (some (.int (n : Nat))) → evE C (.cmp .gt (.var 4) (.ite (.cmp .inn (.var 2) (.gl 172)) (.gl 176) (.gl 177))) r M = .ok (.bl (decide ((m : Int) < (n : Int)))) M := fun r a b => xe_cmp (xe_var b) (em r a) rfl
    by_cases p : m < n
    · rw [if_pos p, xs_ift (x := .int 0) ((cg _ rfl rfl).trans (by rw [decide_eq_true (by omega)])) rfl]
      rfl
    · rw [if_neg p, xs_iff ((cg _ rfl rfl).trans (by rw [decide_eq_false (by omega)]))]
      by_cases a : 1 < n
      · by_cases b : c = 48
        · rw [if_pos ⟨a, b⟩, xs_ret (x := .int 0) (M1 := M) (xe_iteT (xe_andT (xe_cmp (k := true) (xe_var rfl) rfl (by rw [cop_gt, decide_eq_true (by omega)])) (xe_cmp (k := true) (xe_var rfl) rfl (by subst b; rfl))) rfl)]
          rfl
        · rw [if_neg (fun h => b h.2), xs_ret (x := .int n) (M1 := M) (xe_iteF (xe_andT (xe_cmp (k := true) (xe_var rfl) rfl (by rw [cop_gt, decide_eq_true (by omega)])) (xe_cmp (k := false) (xe_var rfl) rfl (by
            rw [cop_eqS]
            simp [b]))) (xe_var rfl))]
          rfl
      · rw [if_neg (fun h => a h.1), xs_ret (x := .int n) (M1 := M) (xe_iteF (xe_andF (xe_cmp (k := false) (xe_var rfl) rfl (by rw [cop_gt, decide_eq_false (by omega)]))) (xe_var rfl))]
        rfl
end Cy
end

section
set_option linter.all false
set_option maxRecDepth 100000
set_option maxHeartbeats 4000000
/-! Plain: tokenize. -/
namespace Cy
abbrev Tok := List Nat × Nat
def tokD (t : Tok) : D := .tup [.str t.1, .int t.2]
/-- the tokens of what is left of a text; the first invalid place -/
def tokz : Nat → List Nat → Nat → Except Nat (List Tok)
  | 0, _, _ => .ok []
  | _, [], _ => .ok []
  | f + 1, c :: r, pl => if c = 32 then tokz f r (pl + 1) else if tlen (c :: r) = 0 then .error pl else
    match tokz f ((c :: r).drop (tlen (c :: r))) (pl + tlen (c :: r)) with
    | .ok ts => .ok (((c :: r).take (tlen (c :: r)), pl) :: ts)
    | .error e => .error e
theorem tlen_le {s : List Nat} : tlen s ≤ s.length := by
  cases s with
  | nil => exact Nat.le_refl _
  | cons c r =>
    rw [tlen_cons]
    have h := pre_le (z := if letters.contains c = true then letters else digits) (s := c :: r)
    have h1 : 1 ≤ (c :: r).length := by simp
    generalize pre (if letters.contains c = true then letters else digits) (c :: r) = n at h
    generalize (c :: r).length = m at h h1
    generalize (if letters.contains c = true then 8 else 3) = k
    split
    · exact h1
    · split
      · exact Nat.zero_le _
      · split
        · exact Nat.zero_le _
        · exact h
theorem sIx_nat {n d i : Nat} : sIx n d (some (i : Int)) = min i n := by
  show (if (i : Int) < 0 then ((i : Int) + (n : Int)).toNat else min (i : Int).toNat n) = _
  rw [if_neg (by omega), Int.toNat_natCast]
def tkC : Ex := .cmp .lt (.var 2) (.bi .len (.cons (.var 0) .nil))
def tkB : St := .seq (.ite (.cmp .eq (.idx (.var 0) (.var 2)) (.cS [32]))
      (.seq (.aug .add 2 (.cI 1))
      .nop)
      (.seq (.set (.nm 3) (.pcall 8 (.cons (.var 0) (.cons (.var 2) .nil))))
      (.seq (.ite (.cmp .eq (.var 3) (.cI 0))
      (.seq (.rse 159 (.cons (.var 2) .nil))
      .nop)
      .nop)
      (.seq (.exp (.bm .append (.var 1) (.cons (.tup (.cons (.sl false (.var 0) (.cons (.var 2) .nil) (.cons (.bin .add (.var 2) (.var 3)) .nil)) (.cons (.var 2) .nil))) .nil)))
      (.seq (.aug .add 2 (.var 3))
      .nop)))))
      .nop
theorem tk_blank {C : Cn} {M : Mem} {text : List Nat} {pl : Nat} {r : List Nat} {x1 x3 : Option D} (h : text.drop pl = 32 :: r) :
    exS C tkB [some (.str text), x1, some (.int pl), x3] M = .nx [some (.str text), x1, some (.int (pl + 1 : Nat)), x3] M := by
  obtain ⟨h1, h2, h3⟩ := at_drop h
  have e : evE C (.cmp .eq (.idx (.var 0) (.var 2)) (.cS [32])) [some (.str text), x1, some (.int pl), x3] M = .ok (.bl true) M := xe_cmp (xe_idx (xe_var rfl) (xe_var rfl) (str_at h2)) rfl rfl
  unfold tkB
  rw [q_seq, q_if, e]
  dsimp only
  rw [q_seq, xs_aug (x := (pl : Int)) (y := 1) rfl rfl]
  rfl
theorem xe_slS {C : Cn} {r : Env} {M : Mem} {a b c : Ex} {s : List Nat} {i j : Nat} (h1 : evE C a r M = .ok (.str s) M) (h2 : evE C b r M = .ok (.int i) M) (h3 : evE C c r M = .ok (.int j) M) (hi : i ≤ j) (hj : j ≤ s.length) :
    evE C (.sl false a (.cons b .nil) (.cons c .nil)) r M = .ok (.str ((s.drop i).take (j - i))) M := by
  show ((evE C a r M).bind fun x M => (evP C (.cons b .nil) r M).bind fun i M => (evP C (.cons c .nil) r M).bind fun j M => match slice (view M x) i j with
    | some (.lst xs) => mkL false xs M
    | some d => if false then .bad else .ok d M
    | none => .bad) = _
  rw [h1]
  simp only [bind_ok]
  rw [show evP C (.cons b .nil) r M = .ok (some (i : Int)) M from by
    show ((evE C b r M).bind fun x M => _) = _
    rw [h2]
    rfl]
  simp only [bind_ok]
  rw [show evP C (.cons c .nil) r M = .ok (some (j : Int)) M from by
    show ((evE C c r M).bind fun x M => _) = _
    rw [h3]
    rfl]
  simp only [bind_ok]
  have e : slice (view M (.str s)) (some (i : Int)) (some (j : Int)) = some (.str ((s.drop i).take (j - i))) := by
    show some (D.str (cut s (some (i : Int)) (some (j : Int)))) = _
    unfold cut
    rw [sIx_nat, sIx_nat, Nat.min_eq_left (by omega), Nat.min_eq_left (by omega)]
  rw [e]
  rfl
theorem xe_append {C : Cn} {r : Env} {M : Mem} {a b : Ex} {l : Nat} {xs : List D} {x : D} {M1 : Mem} (h1 : evE C a r M = .ok (.obj l) M) (h0 : M[l]? = some (.lst xs)) (h2 : evE C b r M = .ok x M1) (h3 : M1[l]? = some (.lst xs)) (hl : xs.length < top) :
    evE C (.bm .append a (.cons b .nil)) r M = .ok .non (M1.set l (.lst (xs ++ [x]))) := by
  rw [q_bm, h1]
  dsimp only
  rw [show bmOk .append (.obj l) M = true from by
    unfold bmOk
    rw [view_obj h0], if_pos rfl, q_cons, h2]
  dsimp only
  rw [q_nil]
  show (match M1[l]? with
    | some (.lst xs) => if Nat.blt xs.length top then Res.ok D.non (M1.set l (.lst (xs ++ [x]))) else .bad
    | _ => .bad) = _
  rw [h3]
  dsimp only
  rw [if_pos (show Nat.blt xs.length top = true from Nat.ble_eq_true_of_le hl)]
theorem tk_token {C : Cn} (g8 : C.has 8 = true) {text : List Nat} {pl c : Nat} {r : List Nat} {acc : List D} {x3 : Option D} (h : text.drop pl = c :: r) (hc : c ≠ 32) (hn : tlen (c :: r) ≠ 0) (ha : acc.length < top)
    (C8 : pcall C 8 [.str text, .int pl] [.lst acc] = .ok (.int (tlen (c :: r) : Nat)) [.lst acc]) :
    exS C tkB [some (.str text), some (.obj 0), some (.int pl), x3] [.lst acc] = .nx [some (.str text), some (.obj 0), some (.int (pl + tlen (c :: r) : Nat)), some (.int (tlen (c :: r) : Nat))] [.lst (acc ++ [tokD ((c :: r).take (tlen (c :: r)), pl)])] := by
  obtain ⟨h1, h2, h3⟩ := at_drop h
  have hle : pl + tlen (c :: r) ≤ text.length := by
    have := congrArg List.length h
    rw [List.length_drop] at this
    have := tlen_le (s := c :: r)
    omega
  generalize tlen (c :: r) = n at *
  have e : evE C (.cmp .eq (.idx (.var 0) (.var 2)) (.cS [32])) [some (.str text), some (.obj 0), some (.int pl), x3] [.lst acc] = .ok (.bl false) [.lst acc] := xe_cmp (xe_idx (xe_var rfl) (xe_var rfl) (str_at h2)) rfl (by
    rw [cop_eqS]
    simp [hc])
  unfold tkB
  rw [q_seq, q_if, e]
  dsimp only
  rw [xs_set (xe_pcall2 g8 (xe_var rfl) (xe_var rfl) rfl rfl C8)]
  show (match exS C _ [some (.str text), some (.obj 0), some (.int pl), some (.int n)] [.lst acc] with
    | .nx r M => exS C .nop r M
    | o => o) = _
  rw [xs_iff (xe_cmp (k := false) (xe_var rfl) rfl (by
    rw [cop_eqI]
    have : ((n : Int) == 0) = false := by simpa using hn
    rw [this]))]
  have ea := xe_append (C := C) (r := [some (.str text), some (.obj 0), some (.int pl), some (.int n)]) (M := [.lst acc]) (a := .var 1) (b := .tup (.cons (.sl false (.var 0) (.cons (.var 2) .nil) (.cons (.bin .add (.var 2) (.var 3)) .nil)) (.cons (.var 2) .nil))) (xs := acc) (l := 0) rfl rfl
    (xe_tup2 (xe_slS (i := pl) (j := pl + n) (s := text) rfl rfl rfl (by omega) (by omega)) rfl) rfl ha
  rw [q_seq, q_exp, ea]
  dsimp only
  rw [q_seq, xs_aug (x := (pl : Int)) (y := (n : Int)) rfl rfl]
  rw [h, show pl + n - pl = n by omega]
  rfl
theorem tk_loop {C : Cn} (g8 : C.has 8 = true) {text : List Nat} (C8 : ∀ pl c r M, text.drop pl = c :: r → pcall C 8 [.str text, .int pl] M = .ok (.int (tlen (c :: r) : Nat)) M) :
    ∀ (f : Nat) (s : List Nat) (pl n : Nat) (acc : List D) (x3 : Option D) (ts : List Tok), text.drop pl = s → pl ≤ text.length → s.length ≤ f → f < n → acc.length + s.length < top → tokz f s pl = .ok ts →
      ∃ x3', loopW (evE C tkC) (exS C tkB) n [some (.str text), some (.obj 0), some (.int pl), x3] [.lst acc] = .nx [some (.str text), some (.obj 0), some (.int text.length), x3'] [.lst (acc ++ ts.map tokD)] := by
  have nil : ∀ (pl n : Nat) (acc : List D) (x3 : Option D), text.drop pl = [] → pl ≤ text.length → 0 < n → loopW (evE C tkC) (exS C tkB) n [some (.str text), some (.obj 0), some (.int pl), x3] [.lst acc] = .nx [some (.str text), some (.obj 0), some (.int text.length), x3] [.lst acc] := by
    intro pl n acc x3 h hp hn
    obtain ⟨m, rfl⟩ : ∃ m, n = m + 1 := ⟨n - 1, by omega⟩
    have hl : text.length = pl := by
      rcases Nat.lt_or_ge pl text.length with h1 | h1
      · rw [List.drop_eq_getElem_cons h1] at h
        cases h
      · omega
    rw [hl]
    refine w_end (xe_cmp (x := .int pl) (y := .int text.length) (xe_var rfl) rfl ?_)
    rw [cop_lt, decide_eq_false (by omega)]
  intro f
  induction f with
  | zero =>
    intro s pl n acc x3 ts h hp hs hf ha ht
    cases s with
    | cons c r => simp at hs
    | nil =>
      cases ht
      rw [List.map_nil, List.append_nil]
      exact ⟨_, nil pl n acc x3 h hp (by omega)⟩
  | succ f ih =>
    intro s pl n acc x3 ts h hp hs hf ha ht
    cases s with
    | nil =>
      cases ht
      rw [List.map_nil, List.append_nil]
      exact ⟨_, nil pl n acc x3 h hp (by omega)⟩
    | cons c r =>
      obtain ⟨m, rfl⟩ : ∃ m, n = m + 1 := ⟨n - 1, by omega⟩
      obtain ⟨h1, h2, h3⟩ := at_drop h
      have cnd : ∀ M, evE C tkC [some (.str text), some (.obj 0), some (.int pl), x3] M = .ok (.bl true) M := fun M => xe_cmp (x := .int pl) (y := .int text.length) (xe_var rfl) rfl (by rw [cop_lt, decide_eq_true (by omega)])
      simp only [List.length_cons] at hs ha
      unfold tokz at ht
      by_cases q : c = 32
      · rw [if_pos q] at ht
        subst q
        rw [w_step (cnd _) (tk_blank h)]
        exact ih r (pl + 1) m acc x3 ts h3 (by omega) (by omega) (by omega) (by omega) ht
      · rw [if_neg q] at ht
        by_cases z : tlen (c :: r) = 0
        · rw [if_pos z] at ht
          cases ht
        · rw [if_neg z] at ht
          rw [w_step (cnd _) (tk_token g8 h q z (by omega) (C8 pl c r _ h))]
          have tl := tlen_le (s := c :: r)
          have e3 : text.drop (pl + tlen (c :: r)) = (c :: r).drop (tlen (c :: r)) := by
            rw [← h, List.drop_drop]
          have e4 := congrArg List.length h
          rw [List.length_drop] at e4
          have e5 : ((c :: r).drop (tlen (c :: r))).length = r.length + 1 - tlen (c :: r) := by rw [List.length_drop, List.length_cons]
          simp only [List.length_cons] at tl e4
          generalize hd : (c :: r).drop (tlen (c :: r)) = d at *
          generalize htk : (c :: r).take (tlen (c :: r)) = k at *
          generalize tlen (c :: r) = w at *
          cases e6 : tokz f d (pl + w) with
          | error e => rw [e6] at ht; cases ht
          | ok ts' =>
            rw [e6] at ht
            cases ht
            obtain ⟨x3', e⟩ := ih d (pl + w) m (acc ++ [tokD (k, pl)]) (some (.int (w : Nat))) ts' e3 (by omega) (by omega) (by omega) (by simp; omega) e6
            refine ⟨x3', ?_⟩
            rw [e]
            simp
theorem pcall_run' {P : Prog} {k f : Nat} {args : List D} {x : D} {M M' : Mem} (h : runF P k f args [] = .ok x M') (hp : D.pure x = true) : pcall (P.cn (runF P k)) f args M = .ok x M := by
  unfold pcall
  rw [show (P.cn (runF P k)).call f args [] = _ from h]
  simp only [hp, if_true]
/-- tokenize of a text whose tokens are all valid -/
theorem tokenize_run {P : Prog} (H : TokP P) {text : List Nat} {ts : List Tok} (hl : text.length < 1000000) (ht : tokz text.length text 0 = .ok ts) (k : Nat) :
    ∃ M', runF P (k + 2) 9 [.str text] [] = .ok (.lst ((ts ++ [([], text.length)]).map tokD)) M' := by
  rw [show k + 2 = (k + 1) + 1 from rfl, run_eq H.tok rfl]
  have C8 : ∀ pl c r M, text.drop pl = c :: r → pcall (P.cn (runF P (k + 1))) 8 [.str text, .int pl] M = .ok (.int (tlen (c :: r) : Nat)) M := fun pl c r M h => pcall_run (tlen_run H h hl k []) rfl
  have g8 : (P.cn (runF P (k + 1))).has 8 = true := H.g8
  generalize P.cn (runF P (k + 1)) = C at C8 g8
  show ∃ M', (exS C Bd.b9 [some (.str text), none, none, none] []).res = _
  obtain ⟨x3, e⟩ := tk_loop g8 C8 text.length text 0 1000000 [] none ts rfl (by omega) (by omega) (by omega) (by unfold top; simp; omega) ht
  refine ⟨[.lst (ts.map tokD)], ?_⟩
  unfold Bd.b9
  have e1 : exS C (.par [1, 2] (.cons (.lst true .nil) (.cons (.cI 0) .nil))) [some (.str text), none, none, none] [] = .nx [some (.str text), some (.obj 0), some (.int ((0 : Nat) : Int)), none] [.lst []] := rfl
  rw [q_seq, e1]
  show (exS C (.seq (.whl 1000000 tkC tkB) _) _ _).res = _
  rw [xs_whl e, List.nil_append]
  rw [xs_ret (x := .lst ((ts ++ [([], text.length)]).map tokD)) (M1 := [.lst (ts.map tokD)]) (xe_bin (x := .obj 0) (y := .lst [tokD ([], text.length)]) (M1 := [.lst (ts.map tokD)]) (M2 := [.lst (ts.map tokD)]) rfl rfl ?_)]
  · rfl
  · show bopV .add (view [.lst (ts.map tokD)] (.obj 0)) (.lst [tokD ([], text.length)]) [.lst (ts.map tokD)] = _
    rw [view_obj (xs := ts.map tokD) rfl]
    show (if Nat.ble ((ts.map tokD).length + 1) top = true then Res.ok (D.lst ((ts.map tokD) ++ [tokD ([], text.length)])) _ else .bad) = _
    have tl : ∀ (f : Nat) (s : List Nat) (pl : Nat) (ts : List Tok), tokz f s pl = .ok ts → ts.length ≤ f := by
      intro f
      induction f with
      | zero => intro s pl ts h; cases h; exact Nat.le_refl _
      | succ f ih =>
        intro s pl ts h
        cases s with
        | nil => cases h; exact Nat.zero_le _
        | cons c r =>
          unfold tokz at h
          split at h
          · exact Nat.le_succ_of_le (ih _ _ _ h)
          · split at h
            · cases h
            · split at h
              · rename_i e
                cases h
                exact Nat.succ_le_succ (ih _ _ _ e)
              · cases h
    have := tl _ _ _ _ ht
    rw [if_pos (Nat.ble_eq_true_of_le (by rw [List.length_map]; unfold top; omega)), List.map_append]
    rfl
end Cy
end

section
set_option linter.all false
set_option maxRecDepth 100000
set_option maxHeartbeats 4000000
/-! Plain: the parser's small methods. -/
namespace Cy
section
variable {C : Cn} {r : Env} {M M1 M2 : Mem} {o e es : Ex} {s : St} {c m f l : Nat} {fs : List (Nat × D)} {x y z : D} {xs : List D}
theorem xe_meth (h : C.meth c m = some f) (h1 : evE C o r M = .ok (.obj l) M) (h2 : M[l]? = some (.ins c fs)) (h3 : getF m fs = none) (h4 : evA C es r M = .ok xs M1) {w : Res D} (h5 : C.call f (.obj l :: xs) M1 = w) :
    evE C (.meth c m o es) r M = w := by
  show (match C.meth c m with
    | some f => (evE C o r M).bind fun x M => match x with
      | .obj l => match M[l]? with
        | some (.ins c' fs) => match getF m fs with
          | none => if c == c' then (evA C es r M).bind fun xs M => C.call f (.obj l :: xs) M else .bad
          | some _ => .bad
        | _ => .bad
      | _ => .bad
    | none => .bad) = _
  rw [h, h1]
  simp only [bind_ok, h2, h3, beq_self_eq_true, if_true, h4]
  exact h5
theorem xe_fld (h1 : evE C o r M = .ok (.obj l) M1) (h2 : M1[l]? = some (.ins c fs)) (h3 : getF f fs = some x) (h4 : C.att c f = true) : evE C (.fld f o) r M = .ok x M1 := by
  show (evE C o r M).bind (fun x M => match x with
    | .obj l => match M[l]? with
      | some (.ins c fs) => match getF f fs with
        | some d => if C.att c f then .ok d M else .bad
        | none => .bad
      | _ => .bad
    | _ => .bad) = _
  rw [h1]
  simp only [bind_ok, h2, h3, h4, if_true]
theorem xs_fldA {i j : Int} (h1 : evE C o r M = .ok (.obj l) M) (h2 : M[l]? = some (.ins c fs)) (h3 : getF f fs = some (.int i)) (h4 : C.att c f = true) (h5 : evE C e r M = .ok (.int j) M) (h6 : Nat.blt fs.length 900 = true) :
    exS C (.seq (.fldA .add f o e) s) r M = exS C s r (M.set l (.ins c (putF f (.int (i + j)) fs))) := by
  rw [q_seq]
  have : exS C (.fldA .add f o e) r M = .nx r (M.set l (.ins c (putF f (.int (i + j)) fs))) := by
    show (evE C o r M).st r (fun x M => match x with
    | .obj l => match M[l]? with
      | some (.ins c fs) => match getF f fs with
        | some y => if C.att c f then (evE C e r M).st r fun d M => (aop .add y d M).st r fun z M => match M[l]? with
          | some (.ins c' fs) => if c == c' && Nat.blt fs.length 900 then Oc.nx r (M.set l (.ins c' (putF f z fs))) else .bad
          | _ => .bad
          else .bad
        | none => .bad
      | _ => .bad
    | _ => .bad) = _
    rw [h1]
    simp only [st_ok, h2, h3, h4, if_true, h5]
    show (match M[l]? with
          | some (.ins c' fs) => if c == c' && Nat.blt fs.length 900 then Oc.nx r (M.set l (.ins c' (putF f (.int (i + j)) fs))) else .bad
          | _ => .bad) = _
    rw [h2]
    simp only [beq_self_eq_true, h6, Bool.and_self, if_true]
  rw [this]
theorem xs_exp (h : evE C e r M = .ok x M1) : exS C (.seq (.exp e) s) r M = exS C s r M1 := by
  rw [q_seq, q_exp, h]
theorem xs_tp2 {i j : Nat} (h : evE C e r M = .ok (.tup [x, y]) M1) : exS C (.seq (.set (.tp [i, j]) e) s) r M = exS C s ((r.set i (some x)).set j (some y)) M1 := by
  rw [q_seq, q_set, h]
  rfl
theorem xa_nil : evA C .nil r M = .ok [] M := rfl
theorem xa_1 (h1 : evE C e r M = .ok x M1) : evA C (.cons e .nil) r M = .ok [x] M1 := by
  rw [q_cons, h1]
  rfl
theorem xa_2 {e2 : Ex} (h1 : evE C e r M = .ok x M1) (h2 : evE C e2 r M1 = .ok y M2) : evA C (.cons e (.cons e2 .nil)) r M = .ok [x, y] M2 := by
  rw [q_cons, h1]
  dsimp only
  rw [xa_1 h2]
theorem xe_notF {k : Bool} (h : evE C e r M = .ok (.bl k) M1) : evE C (.not e) r M = .ok (.bl (!k)) M1 := by
  rw [q_not, h]
end
theorem get_set {M : Mem} {l : Nat} {x : MO} (h : l < M.length) : (M.set l x)[l]? = some x := List.getElem?_set_self h
theorem lt_of_get {M : Mem} {l : Nat} {x : MO} (h : M[l]? = some x) : l < M.length := (List.getElem?_eq_some_iff.mp h).1
structure ParP (P : Prog) : Prop extends TokP P where
  init : P.fn 10 = some Bd.f10
  peek : P.fn 11 = some Bd.f11
  fail : P.fn 12 = some Bd.f12
  expect : P.fn 13 = some Bd.f13
  number : P.fn 14 = some Bd.f14
  count : P.fn 15 = some Bd.f15
  pattern : P.fn 16 = some Bd.f16
  unit : P.fn 17 = some Bd.f17
  group : P.fn 18 = some Bd.f18
  call : P.fn 19 = some Bd.f19
  m11 : P.meth 183 184 = some 11
  m12 : P.meth 183 185 = some 12
  m13 : P.meth 183 186 = some 13
  m14 : P.meth 183 187 = some 14
  m15 : P.meth 183 188 = some 15
  m16 : P.meth 183 189 = some 16
  m17 : P.meth 183 190 = some 17
  m18 : P.meth 183 191 = some 18
  m19 : P.meth 183 192 = some 19
  ini : P.init 183 = some 10
  a196 : P.att 183 196 = true
  a197 : P.att 183 197 = true
  a198 : P.att 183 198 = true
  a199 : P.att 183 199 = true
  keywords : P.con 175 = some (.tup [.str [109, 105, 114, 114, 111, 114], .str [108, 97, 116, 101], .str [101, 97, 99, 104]])
  maxNumber : P.con 178 = some (.int 16)
  maxDen : P.con 179 = some (.int 64)
  maxDepth : P.con 180 = some (.int 12)
  maxUnits : P.con 181 = some (.int 60)
/-- the parser's object -/
def ob (T : List Tok) (q : Nat) (a u : Nat) : MO := .ins 183 [(196, .lst (T.map tokD)), (197, .int a), (198, .int u), (199, .obj q)]
section
variable {P : Prog} (H : ParP P) {T : List Tok} {p q a u : Nat} {M : Mem}
include H
theorem xe_tok {C : Cn} {r : Env} (ha : ∀ f, C.att 183 f = P.att 183 f) (hr : r[0]? = some (some (.obj p))) (hM : M[p]? = some (ob T q a u)) : evE C (.fld 196 (.var 0)) r M = .ok (.lst (T.map tokD)) M ∧ evE C (.fld 197 (.var 0)) r M = .ok (.int a) M ∧
    evE C (.fld 198 (.var 0)) r M = .ok (.int u) M ∧ evE C (.fld 199 (.var 0)) r M = .ok (.obj q) M :=
  ⟨xe_fld (xe_var hr) hM rfl ((ha _).trans H.a196), xe_fld (xe_var hr) hM rfl ((ha _).trans H.a197), xe_fld (xe_var hr) hM rfl ((ha _).trans H.a198), xe_fld (xe_var hr) hM rfl ((ha _).trans H.a199)⟩
omit H in
theorem tok_at {t : Tok} (h : T[a]? = some t) : index (.lst (T.map tokD)) (.int (a : Int)) = some (tokD t) := by
  show atI (T.map tokD) (a : Int) = _
  rw [atI_nat, List.getElem?_map, h]
  rfl
theorem peek_run {t : Tok} (hM : M[p]? = some (ob T q a u)) (ht : T[a]? = some t) (k : Nat) : runF P (k + 1) 11 [.obj p] M = .ok (.str t.1) M := by
  rw [run_eq H.peek rfl]
  have ha : ∀ f, (P.cn (runF P k)).att 183 f = P.att 183 f := fun _ => rfl
  generalize P.cn (runF P k) = C at ha
  obtain ⟨e1, e2, _, _⟩ := xe_tok H (C := C) (r := [some (.obj p)]) ha rfl hM
  show (exS C Bd.b11 [some (.obj p)] M).res = _
  unfold Bd.b11
  rw [xs_ret (xe_idx (xe_idx e1 e2 (tok_at ht)) rfl rfl)]
  rfl
/-- peek within an expression -/
theorem xe_peek {C : Cn} {r : Env} {t : Tok} {k : Nat} (hC : C = P.cn (runF P (k + 1))) (hr : r[0]? = some (some (.obj p))) (hM : M[p]? = some (ob T q a u)) (ht : T[a]? = some t) : evE C (.meth 183 184 (.var 0) .nil) r M = .ok (.str t.1) M := by
  subst hC
  exact xe_meth H.m11 (xe_var hr) hM rfl xa_nil (peek_run H hM ht k)
theorem expect_run {t : Tok} (hM : M[p]? = some (ob T q a u)) (ht : T[a]? = some t) (k : Nat) : runF P (k + 2) 13 [.obj p, .str t.1] M = .ok .non (M.set p (ob T q (a + 1) u)) := by
  rw [run_eq H.expect rfl]
  show (exS _ Bd.b13 [some (.obj p), some (.str t.1)] M).res = _
  unfold Bd.b13
  have e1 := xe_peek H (r := [some (.obj p), some (.str t.1)]) (k := k) rfl rfl hM ht
  rw [xs_iff (xe_cmp (k := false) e1 (xe_var rfl) (by rw [cop_neS]; simp))]
  rw [xs_fldA (xe_var rfl) hM rfl H.a197 rfl rfl]
  rfl
/-- a number's text -/
def numOk (n : Nat) : Bool := (numT n).all isDig && Nat.blt 0 (numT n).length && Nat.blt (numT n).length 4 && (valT (numT n) == n) && (match numT n with
  | [] => false
  | c :: r => digits.contains c && (r.isEmpty || !(c == 48)))
omit H in
theorem num_ok {n : Nat} (h : n ≤ 100) : numOk n = true := by
  have := (by decide +kernel : ∀ n, n < 101 → numOk n = true)
  exact this n (by omega)
theorem number_run {n pl : Nat} (hn : n ≤ 100) (hM : M[p]? = some (ob T q a u)) (ht : T[a]? = some (numT n, pl)) (k : Nat) : runF P (k + 2) 14 [.obj p] M = .ok (.tup [.int n, .int pl]) (M.set p (ob T q (a + 1) u)) := by
  rw [run_eq H.number rfl]
  show (exS _ Bd.b14 [some (.obj p)] M).res = _
  have hok := num_ok hn
  unfold numOk at hok
  simp only [Bool.and_eq_true] at hok
  obtain ⟨⟨⟨⟨o1, o2⟩, o3⟩, o4⟩, o5⟩ := hok
  have e1 := xe_peek H (r := [some (.obj p)]) (k := k) rfl rfl hM ht
  have c2 : (P.cn (runF P (k + 1))).con 173 = some (.str digits) := H.digits
  have ha : ∀ f, (P.cn (runF P (k + 1))).att 183 f = P.att 183 f := fun _ => rfl
  generalize P.cn (runF P (k + 1)) = C at e1 c2 ha
  cases hs : numT n with
  | nil => rw [hs] at o2; cases o2
  | cons c r =>
    rw [hs] at o5
    simp only [Bool.and_eq_true] at o5
    rw [hs] at e1
    unfold Bd.b14
    rw [xs_iff (xe_orF (x := .ok (.bl false) M) (xe_cmp (k := false) e1 rfl (by rw [cop_eqS]; rfl)) (xe_cmp (k := false) (xe_idx (z := .str [c]) e1 rfl (by
      show (atI (c :: r) 0).map _ = _
      rw [atI_0]
      rfl)) (xe_gl c2) (by
      show (some (digits.contains c)).map (! ·) = _
      rw [o5.1]; rfl)))]
    have hM2 : (M.set p (ob T q (a + 1) u))[p]? = some (ob T q (a + 1) u) := get_set (lt_of_get hM)
    rw [xs_fldA (xe_var rfl) hM rfl ((ha _).trans H.a197) rfl rfl]
    show (exS C _ [some (.obj p)] (M.set p (ob T q (a + 1) u))).res = _
    obtain ⟨f1, f2, _, _⟩ := xe_tok H (C := C) (r := [some (.obj p)]) ha rfl hM2
    have f3 : evE C (.idx (.fld 196 (.var 0)) (.bin .sub (.fld 197 (.var 0)) (.cI 1))) [some (.obj p)] (M.set p (ob T q (a + 1) u)) = .ok (tokD (numT n, pl)) (M.set p (ob T q (a + 1) u)) := by
      refine xe_idx f1 (xe_bin f2 rfl rfl) ?_
      rw [show (((a + 1 : Nat) : Int) - 1) = (a : Int) by omega]
      exact tok_at ht
    have b : ∀ M, bi .int [.str (numT n)] M = .ok (.int n) M := fun M => by
      show (if (numT n).all isDig && Nat.blt 0 (numT n).length && Nat.blt (numT n).length 10 then Res.ok (D.int (valT (numT n))) M else .bad) = _
      have o6 : Nat.blt (numT n).length 10 = true := by
        have := Nat.le_of_ble_eq_true o3
        exact Nat.ble_eq_true_of_le (by omega)
      rw [o1, o2, o6, eq_of_beq o4]
      rfl
    have f4 : evE C (.bi .int (.cons (.idx (.idx (.fld 196 (.var 0)) (.bin .sub (.fld 197 (.var 0)) (.cI 1))) (.cI 0)) .nil)) [some (.obj p)] (M.set p (ob T q (a + 1) u)) = .ok (.int n) (M.set p (ob T q (a + 1) u)) := by
      rw [q_bi, xa_1 (xe_idx (z := .str (numT n)) f3 rfl rfl)]
      exact b _
    rw [xs_ret (xe_tup2 f4 (xe_idx (z := .int pl) f3 rfl rfl))]
    rfl
theorem count_run_ {n pl : Nat} (h1 : 1 ≤ n) (hn : n ≤ 16) (hM : M[p]? = some (ob T q a u)) (ht : T[a]? = some (numT n, pl)) (k : Nat) : runF P (k + 3) 15 [.obj p] M = .ok (.int n) (M.set p (ob T q (a + 1) u)) := by
  rw [run_eq H.count rfl]
  show (exS _ Bd.b15 [some (.obj p), none, none] M).res = _
  have c2 : (P.cn (runF P (k + 2))).con 178 = some (.int 16) := H.maxNumber
  have e1 : evE (P.cn (runF P (k + 2))) (.meth 183 187 (.var 0) .nil) [some (.obj p), none, none] M = .ok (.tup [.int n, .int pl]) (M.set p (ob T q (a + 1) u)) := xe_meth H.m14 (xe_var rfl) hM rfl xa_nil (number_run H (by omega) hM ht k)
  generalize P.cn (runF P (k + 2)) = C at e1 c2
  unfold Bd.b15
  rw [xs_tp2 e1]
  have d1 : decide ((1 : Int) ≤ (n : Int)) = true := decide_eq_true (by omega)
  have d2 : decide ((n : Int) ≤ (16 : Int)) = true := decide_eq_true (by omega)
  rw [xs_iff (by
    rw [q_not]
    simp only [q_ch2, q_cI, q_var, q_gl, c2, cop_le, d1, d2, List.set_cons_succ, List.set_cons_zero, List.getElem?_cons_succ, List.getElem?_cons_zero, Bool.not_true])]
  rw [xs_ret (x := .int n) (xe_var rfl)]
  rfl
end
end Cy
end

section
set_option linter.all false
set_option maxRecDepth 100000
set_option maxHeartbeats 4000000
/-! Plain: valid trees, their tokens, what the parser's memory keeps. -/
namespace Cy
mutual
/-- the tokens of a tree -/
def Tr.tk : Tr → List (List Nat)
  | .word w => [w]
  | .rest => [[95]]
  | .row ts => [40] :: (Tr.tkR [] ts ++ [[41]])
  | .lay ts => [91] :: ((Tr.tkR [[43]] ts).drop 1 ++ [[93]])
  | .turn ts => [123] :: (Tr.tkR [] ts ++ [[125]])
  | .fast n t => t.tk ++ [[94], numT n]
  | .slow n t => t.tk ++ [[58], numT n]
  | .shift a b t => [[108, 97, 116, 101], [40], numT a, [47], numT b, [44]] ++ (t.tk ++ [[41]])
  | .rev t => [[109, 105, 114, 114, 111, 114], [40]] ++ (t.tk ++ [[41]])
  | .every n t u => [[101, 97, 99, 104], [40], numT n, [44]] ++ (t.tk ++ ([44] :: (u.tk ++ [[41]])))
def Tr.tkR (sep : List (List Nat)) : List Tr → List (List Nat)
  | [] => []
  | t :: ts => sep ++ (t.tk ++ Tr.tkR sep ts)
end
mutual
def Tr.un : Tr → Nat
  | .word _ => 1
  | .rest => 1
  | .row ts => 1 + Tr.unL ts
  | .lay ts => 1 + Tr.unL ts
  | .turn ts => 1 + Tr.unL ts
  | .fast _ t => t.un
  | .slow _ t => t.un
  | .shift _ _ t => 1 + t.un
  | .rev t => 1 + t.un
  | .every _ t u => 1 + (t.un + u.un)
def Tr.unL : List Tr → Nat
  | [] => 0
  | t :: ts => t.un + Tr.unL ts
end
theorem units_un : ∀ {n : Nat} {t : Tr}, Tr.ok n t → t.units = (t.un : Int) := by
  intro n
  induction n with
  | zero => intro t h; cases t <;> first | rfl | exact h.elim
  | succ n ih =>
    intro t h
    have L : ∀ ts : List Tr, (∀ t ∈ ts, Tr.ok n t) → (Tr.unitsL ts).sum = (Tr.unL ts : Nat) := fun ts => by
      induction ts with
      | nil => intro _; rfl
      | cons t ts ih2 =>
        intro hs
        have h1 := ih (hs t List.mem_cons_self)
        have h2 := ih2 fun t ht => hs t (List.mem_cons_of_mem _ ht)
        simp only [Tr.unitsL, Tr.unL, List.sum_cons, h1, h2]
        omega
    cases t with
    | word w => rfl
    | rest => rfl
    | row ts => have := L ts h.2.2; simp only [Tr.units, Tr.un, this]; omega
    | lay ts => have := L ts h.2.2; simp only [Tr.units, Tr.un, this]; omega
    | turn ts => have := L ts h.2.2; simp only [Tr.units, Tr.un, this]; omega
    | fast m t => exact ih (t := t) h.2
    | slow m t => exact ih (t := t) h.2
    | shift a b t => have := ih (t := t) h.2; simp only [Tr.units, Tr.un, this]; omega
    | rev t => have := ih (t := t) h; simp only [Tr.units, Tr.un, this]; omega
    | every m t u => have := ih (t := t) h.2.1; have := ih (t := u) h.2.2; simp only [Tr.units, Tr.un, *]; omega
def keywords : List (List Nat) := [[109, 105, 114, 114, 111, 114], [108, 97, 116, 101], [101, 97, 99, 104]]
def okWord (w : List Nat) : Bool := w.all (fun c => letters.contains c) && Nat.blt 0 w.length && Nat.ble w.length 8 && !keywords.contains w
/-- a tree that the program takes, at a depth -/
def Tr.val : Nat → Nat → Tr → Prop
  | _, d, .word w => d ≤ 12 ∧ okWord w = true
  | _, d, .rest => d ≤ 12
  | 0, _, _ => False
  | n + 1, d, .row ts => d ≤ 12 ∧ (ts ≠ [] ∧ ts.length ≤ 1000000) ∧ ∀ t ∈ ts, Tr.val n (d + 1) t
  | n + 1, d, .lay ts => d ≤ 12 ∧ (ts ≠ [] ∧ ts.length ≤ 1000000) ∧ ∀ t ∈ ts, Tr.val n (d + 1) t
  | n + 1, d, .turn ts => d ≤ 12 ∧ (ts ≠ [] ∧ ts.length ≤ 1000000) ∧ ∀ t ∈ ts, Tr.val n (d + 1) t
  | n + 1, d, .fast m t => (1 ≤ m ∧ m ≤ 16) ∧ Tr.val n d t
  | n + 1, d, .slow m t => (1 ≤ m ∧ m ≤ 16) ∧ Tr.val n d t
  | n + 1, d, .shift a b t => d ≤ 12 ∧ (a < b ∧ b ≤ 64) ∧ Tr.val n (d + 1) t
  | n + 1, d, .rev t => d ≤ 12 ∧ Tr.val n (d + 1) t
  | n + 1, d, .every m t u => d ≤ 12 ∧ (1 ≤ m ∧ m ≤ 16) ∧ Tr.val n (d + 1) t ∧ Tr.val n (d + 1) u
theorem words_ok : ∀ w ∈ words, okWord w = true := by decide
theorem wf_val : ∀ {n d : Nat} {t : Tr}, Tr.wf n t → n + d ≤ 12 → Tr.val n d t := by
  intro n
  induction n with
  | zero => intro d t h hd; cases t <;> first | exact h.elim | exact ⟨by omega, words_ok _ h⟩ | (show d ≤ 12; omega)
  | succ n ih =>
    intro d t h hd
    have L : ∀ {ts : List Tr}, Tr.wfL n ts → ∀ t ∈ ts, Tr.val n (d + 1) t := fun h t ht => ih (wfL_iff.mp h t ht) (by omega)
    have N : ∀ {ts : List Tr}, 1 ≤ ts.length → ts ≠ [] := fun h e => by subst e; exact absurd h (by simp)
    cases t with
    | word w => exact ⟨by omega, words_ok _ h⟩
    | rest => show d ≤ 12; omega
    | row ts => exact ⟨by omega, ⟨N h.1, by have := h.2.1; omega⟩, L h.2.2⟩
    | lay ts => exact ⟨by omega, ⟨N h.1, by have := h.2.1; omega⟩, L h.2.2⟩
    | turn ts => exact ⟨by omega, ⟨N h.1, by have := h.2.1; omega⟩, L h.2.2⟩
    | fast m t => exact ⟨⟨h.1, by have := h.2.1; omega⟩, ih h.2.2 (by omega)⟩
    | slow m t => exact ⟨⟨h.1, by have := h.2.1; omega⟩, ih h.2.2 (by omega)⟩
    | shift a b t => exact ⟨by omega, ⟨h.1, by have := h.2.1; omega⟩, ih h.2.2.2 (by omega)⟩
    | rev t => exact ⟨by omega, ih (t := t) h (by omega)⟩
    | every m t u => exact ⟨by omega, ⟨h.1, by have := h.2.1; omega⟩, ih h.2.2.1 (by omega), ih h.2.2.2 (by omega)⟩
theorem val_ok : ∀ {n d : Nat} {t : Tr}, Tr.val n d t → Tr.ok n t := by
  intro n
  induction n with
  | zero => intro d t h; cases t <;> first | exact h.elim | trivial
  | succ n ih =>
    intro d t h
    cases t with
    | word w => trivial
    | rest => trivial
    | row ts => exact ⟨h.2.1.1, h.2.1.2, fun t ht => ih (h.2.2 t ht)⟩
    | lay ts => exact ⟨h.2.1.1, h.2.1.2, fun t ht => ih (h.2.2 t ht)⟩
    | turn ts => exact ⟨h.2.1.1, h.2.1.2, fun t ht => ih (h.2.2 t ht)⟩
    | fast m t => exact ⟨⟨h.1.1, by have := h.1.2; omega⟩, ih h.2⟩
    | slow m t => exact ⟨⟨h.1.1, by have := h.1.2; omega⟩, ih h.2⟩
    | shift a b t => exact ⟨⟨h.2.1.1, by have := h.2.1.2; omega⟩, ih h.2.2⟩
    | rev t => exact ih (t := t) h.2
    | every m t u => exact ⟨⟨h.2.1.1, by have := h.2.1.2; omega⟩, ih h.2.2.1, ih h.2.2.2⟩
/-! ### the frame -/
def Fr (p : Nat) (M M' : Mem) : Prop := M.length ≤ M'.length ∧ ∀ l, l < M.length → l ≠ p → M'[l]? = M[l]?
theorem Fr.refl {p : Nat} {M : Mem} : Fr p M M := ⟨Nat.le_refl _, fun _ _ _ => rfl⟩
theorem Fr.trans {p : Nat} {M M1 M2 : Mem} (h : Fr p M M1) (k : Fr p M1 M2) : Fr p M M2 := ⟨Nat.le_trans h.1 k.1, fun l h1 h2 => (k.2 l (Nat.lt_of_lt_of_le h1 h.1) h2).trans (h.2 l h1 h2)⟩
theorem Fr.set {p : Nat} {M M1 : Mem} {x : MO} (h : Fr p M M1) : Fr p M (M1.set p x) := ⟨by rw [List.length_set]; exact h.1, fun l h1 h2 => by rw [List.getElem?_set_ne (Ne.symm h2)]; exact h.2 l h1 h2⟩
theorem Fr.app {p : Nat} {M M1 : Mem} {x : MO} (h : Fr p M M1) : Fr p M (M1 ++ [x]) := ⟨by rw [List.length_append]; have := h.1; omega, fun l h1 h2 => by rw [List.getElem?_append_left (Nat.lt_of_lt_of_le h1 h.1)]; exact h.2 l h1 h2⟩
theorem Fr.new {p j : Nat} {M M1 : Mem} {x : MO} (h : Fr p M M1) (hj : M.length ≤ j) : Fr p M (M1.set j x) := ⟨by rw [List.length_set]; exact h.1, fun l h1 h2 => by rw [List.getElem?_set_ne (by omega)]; exact h.2 l h1 h2⟩
theorem Fr.get {p l : Nat} {M M1 : Mem} {x : MO} (h : Fr p M M1) (h1 : M[l]? = some x) (h2 : l ≠ p) : M1[l]? = some x := (h.2 l (lt_of_get h1) h2).trans h1
/-! ### tokens by place -/
theorem tk_at {T : List Tok} {a : Nat} {x : List Nat} {R : List (List Nat)} (h : (T.map (·.1)).drop a = x :: R) : ∃ pl, T[a]? = some (x, pl) ∧ (T.map (·.1)).drop (a + 1) = R := by
  have hi : a < (T.map (·.1)).length := by
    rcases Nat.lt_or_ge a (T.map (·.1)).length with h1 | h1
    · exact h1
    · rw [List.drop_eq_nil_of_le h1] at h
      cases h
  rw [List.drop_eq_getElem_cons hi] at h
  injection h with h1 h2
  rw [List.getElem_map] at h1
  have hi' : a < T.length := by simpa using hi
  refine ⟨(T[a]).2, ?_, h2⟩
  rw [List.getElem?_eq_getElem hi', ← h1]
theorem tk_drop {T : List Tok} {a : Nat} {X R : List (List Nat)} (h : (T.map (·.1)).drop a = X ++ R) : (T.map (·.1)).drop (a + X.length) = R := by
  rw [← List.drop_drop, h, List.drop_left]
/-- what a tree begins with -/
def ft : List Nat → Bool
  | [] => false
  | c :: r => letters.contains c || (r.isEmpty && [95, 40, 91, 123].contains c)
def noHead (x : List Nat) : Prop := x ≠ [94] ∧ x ≠ [58] ∧ x ≠ [41] ∧ x ≠ [93] ∧ x ≠ [125] ∧ x ≠ [43] ∧ x ≠ [44] ∧ x ≠ [47] ∧ x ≠ []
theorem ft_no {x : List Nat} (h : ft x = true) : noHead x := by
  refine ⟨?_, ?_, ?_, ?_, ?_, ?_, ?_, ?_, ?_⟩ <;> (intro e; subst e; revert h; decide)
theorem tk_head : ∀ {n d : Nat} {t : Tr}, Tr.val n d t → ∃ x R, t.tk = x :: R ∧ ft x = true := by
  intro n
  have W : ∀ {d : Nat} {w : List Nat}, okWord w = true → ∃ x R, (Tr.word w).tk = x :: R ∧ ft x = true := fun {d w} h => by
    refine ⟨w, [], rfl, ?_⟩
    unfold okWord at h
    simp only [Bool.and_eq_true] at h
    obtain ⟨⟨⟨h1, h2⟩, h3⟩, h4⟩ := h
    cases w with
    | nil => cases h2
    | cons c r =>
      simp only [List.all_cons, Bool.and_eq_true] at h1
      show (letters.contains c || (r.isEmpty && [95, 40, 91, 123].contains c)) = true
      rw [h1.1]; rfl
  induction n with
  | zero =>
    intro d t h
    cases t <;> first | exact h.elim | exact ⟨_, _, rfl, rfl⟩ | exact W (d := d) h.2
  | succ n ih =>
    intro d t h
    cases t with
    | word w => exact W (d := d) h.2
    | fast m t => obtain ⟨x, R, e, f⟩ := ih h.2; exact ⟨x, R ++ [[94], numT m], by simp only [Tr.tk, e, List.cons_append], f⟩
    | slow m t => obtain ⟨x, R, e, f⟩ := ih h.2; exact ⟨x, R ++ [[58], numT m], by simp only [Tr.tk, e, List.cons_append], f⟩
    | _ => exact ⟨_, _, rfl, rfl⟩
end Cy
end

section
set_option linter.all false
set_option maxRecDepth 100000
set_option maxHeartbeats 4000000
/-! Plain: the parser on valid tokens. -/
namespace Cy
theorem isIn_tup {d : D} {xs : List D} : isIn d (.tup xs) = if D.flat d && xs.all D.flat then some (xs.any fun x => D.eqv x d) else none := by
  cases d with
  | str s =>
    cases s with
    | nil => rfl
    | cons c r => cases r <;> rfl
  | _ => rfl
theorem xe_tuple {C : Cn} {r : Env} {M M1 : Mem} {a : Ex} {l : Nat} {xs : List D} (h : evE C a r M = .ok (.obj l) M1) (h2 : M1[l]? = some (.lst xs)) : evE C (.bi .tuple (.cons a .nil)) r M = .ok (.tup xs) M1 := by
  rw [q_bi, xa_1 h]
  show (match view M1 (.obj l) with
    | .lst xs => Res.ok (D.tup xs) M1
    | .tup xs => .ok (.tup xs) M1
    | _ => .bad) = _
  rw [view_obj h2]
/-- the unit's rest, after its first token was taken -/
def unitT : St := (.seq (.ite (.cmp .eq (.var 2) (.cS [95]))
      (.seq (.ret (.tup (.cons (.cS [114, 101, 115, 116]) (.cons .cN (.cons (.tup .nil) .nil)))))
      .nop)
      .nop)
      (.seq (.ite (.cmp .inn (.var 2) (.gl 175))
      (.seq (.ret (.meth 183 192 (.var 0) (.cons (.var 2) (.cons (.var 1) .nil))))
      .nop)
      .nop)
      (.seq (.ite (.cmp .inn (.idx (.var 2) (.cI 0)) (.gl 172))
      (.seq (.ret (.tup (.cons (.cS [119, 111, 114, 100]) (.cons (.var 2) (.cons (.tup .nil) .nil)))))
      .nop)
      .nop)
      (.seq (.ret (.meth 183 191 (.var 0) (.cons (.var 2) (.cons (.var 1) .nil))))
      .nop))))
theorem ft_dig {c : Nat} {r : List Nat} (h : ft (c :: r) = true) : digits.contains c = false := by
  have h : (letters.contains c || (r.isEmpty && [95, 40, 91, 123].contains c)) = true := h
  rw [Bool.or_eq_true, Bool.and_eq_true] at h
  rcases h with h | ⟨_, h⟩
  · exact (by decide : ∀ c ∈ letters, digits.contains c = false) c (by simpa using h)
  · exact (by decide : ∀ c ∈ [95, 40, 91, 123], digits.contains c = false) c (by simpa using h)
theorem eqv_str {s t : List Nat} : D.eqv (.str s) (.str t) = (s == t) := rfl
theorem inn_no {x : List Nat} (h : noHead x) {M : Mem} : cop .inn (.str x) (.tup [.str [41], .str [93], .str [125], .str [43], .str [94], .str [58], .str [47], .str [44]]) M = some false := by
  show isIn (.str x) (.tup _) = _
  rw [isIn_tup]
  obtain ⟨h1, h2, h3, h4, h5, h6, h7, h8, h9⟩ := h
  have b : ∀ y : List Nat, x ≠ y → (y == x) = false := fun y h => by simpa using Ne.symm h
  simp only [D.flat, List.all_cons, List.all_nil, Bool.and_self, if_true, List.any_cons, List.any_nil, eqv_str, b _ h1, b _ h2, b _ h3, b _ h4, b _ h5, b _ h6, b _ h7, b _ h8, Bool.or_self]
theorem inn_kw {x : List Nat} {M : Mem} : cop .inn (.str x) (.tup [.str [109, 105, 114, 114, 111, 114], .str [108, 97, 116, 101], .str [101, 97, 99, 104]]) M = some (keywords.contains x) := by
  show isIn (.str x) (.tup _) = _
  rw [isIn_tup]
  have b : ∀ y : List Nat, (y == x) = (x == y) := fun y => BEq.comm
  simp only [D.flat, List.all_cons, List.all_nil, Bool.and_self, if_true, List.any_cons, List.any_nil, eqv_str, keywords, List.contains_cons, b]
  rfl
section
variable {P : Prog} (H : ParP P) {T : List Tok} {p q : Nat} (hpq : q ≠ p)
include H
theorem xs_expect {r : Env} {s : St} {x : List Nat} {pl a u k : Nat} {M : Mem} (hr : r[0]? = some (some (.obj p))) (hM : M[p]? = some (ob T q a u)) (ht : T[a]? = some (x, pl)) :
    exS (P.cn (runF P (k + 2))) (.seq (.exp (.meth 183 186 (.var 0) (.cons (.cS x) .nil))) s) r M = exS (P.cn (runF P (k + 2))) s r (M.set p (ob T q (a + 1) u)) :=
  xs_exp (xe_meth H.m13 (xe_var hr) hM rfl (xa_1 rfl) (expect_run H (t := (x, pl)) hM ht k))
theorem xs_app {r : Env} {s : St} {d a u K li : Nat} {M M1 : Mem} {x : D} {xs : List D} (hr : r[0]? = some (some (.obj p))) (hd : r[2]? = some (some (.int d))) (hr4 : r[4]? = some (some (.obj li))) (hM : M[p]? = some (ob T q a u))
    (hc : runF P K 16 [.obj p, .int (d + 1 : Nat)] M = .ok x M1) (h1 : M[li]? = some (.lst xs)) (h2 : M1[li]? = some (.lst xs)) (hl : xs.length < top) :
    exS (P.cn (runF P K)) (.seq (.exp (.bm .append (.var 4) (.cons (.meth 183 189 (.var 0) (.cons (.bin .add (.var 2) (.cI 1)) .nil)) .nil))) s) r M = exS (P.cn (runF P K)) s r (M1.set li (.lst (xs ++ [x]))) :=
  xs_exp (xe_append (xe_var hr4) h1 (xe_meth H.m16 (xe_var hr) hM rfl (xa_1 (xe_bin (xe_var hd) rfl rfl)) hc) h2 hl)
theorem unit_head {c d a u pl k : Nat} {r : List Nat} {M : Mem} (hf : ft (c :: r) = true) (hM : M[p]? = some (ob T q a u)) (ht : T[a]? = some (c :: r, pl)) (hu : u + 1 ≤ 60) (hd : d ≤ 12) :
    exS (P.cn (runF P k)) Bd.b17 [some (.obj p), some (.int d), none, none] M = exS (P.cn (runF P k)) unitT [some (.obj p), some (.int d), some (.str (c :: r)), some (.int pl)] (M.set p (ob T q (a + 1) (u + 1))) := by
  have c1 : (P.cn (runF P k)).con 173 = some (.str digits) := H.digits
  have c2 : (P.cn (runF P k)).con 180 = some (.int 12) := H.maxDepth
  have c3 : (P.cn (runF P k)).con 181 = some (.int 60) := H.maxUnits
  have ha : ∀ f, (P.cn (runF P k)).att 183 f = P.att 183 f := fun _ => rfl
  generalize P.cn (runF P k) = C at c1 c2 c3 ha
  obtain ⟨e1, e2, _, _⟩ := xe_tok H (C := C) (r := [some (.obj p), some (.int d), none, none]) ha rfl hM
  unfold Bd.b17
  rw [xs_tp2 (xe_idx e1 e2 (tok_at ht))]
  show exS C _ [some (.obj p), some (.int d), some (.str (c :: r)), some (.int pl)] M = _
  have f2 : evE C (.cmp .inn (.idx (.var 2) (.cI 0)) (.gl 173)) [some (.obj p), some (.int d), some (.str (c :: r)), some (.int pl)] M = .ok (.bl false) M := xe_cmp (xe_idx (z := .str [c]) (xe_var rfl) rfl (by
    show (atI (c :: r) 0).map _ = _
    rw [atI_0]; rfl)) (xe_gl c1) (by
    show some (digits.contains c) = _
    rw [ft_dig hf])
  have f3 := inn_no (ft_no hf) (M := M)
  rw [xs_iff (xe_orF (xe_cmp (k := false) (xe_var rfl) rfl (by rw [cop_eqS]; rfl)) (xe_orF f2 (xe_cmp (M1 := M) (M2 := M) (k := false) (xe_var rfl) rfl f3)))]
  have hl := lt_of_get hM
  have hM1 : (M.set p (ob T q (a + 1) u))[p]? = some (ob T q (a + 1) u) := get_set hl
  have hl2 : p < (M.set p (ob T q (a + 1) u)).length := by rw [List.length_set]; exact hl
  have hM2 : ((M.set p (ob T q (a + 1) u)).set p (ob T q (a + 1) (u + 1)))[p]? = some (ob T q (a + 1) (u + 1)) := get_set hl2
  rw [xs_fldA (xe_var rfl) hM rfl ((ha _).trans H.a197) rfl rfl]
  show exS C _ _ (M.set p (ob T q (a + 1) u)) = _
  rw [xs_fldA (xe_var rfl) hM1 rfl ((ha _).trans H.a198) rfl rfl]
  show exS C _ _ ((M.set p (ob T q (a + 1) u)).set p (ob T q (a + 1) (u + 1))) = _
  obtain ⟨_, _, e3, _⟩ := xe_tok H (C := C) (r := [some (.obj p), some (.int d), some (.str (c :: r)), some (.int pl)]) ha rfl hM2
  rw [xs_iff (xe_cmp (k := false) e3 (xe_bin (xe_gl c3) rfl rfl) (by
    rw [cop_eqI]
    have : (((u + 1 : Nat) : Int) == 60 + 1) = false := by
      have : ((u + 1 : Nat) : Int) ≠ 60 + 1 := by omega
      simpa using this
    rw [this]))]
  rw [xs_iff (xe_cmp (k := false) (xe_var rfl) (xe_gl c2) (by rw [cop_gt, decide_eq_false (by omega)]))]
  rw [List.set_set]
  rfl
end
/-! ### what is to be shown -/
def UnitS (P : Prog) (T : List Tok) (p q K : Nat) (t : Tr) (d : Nat) : Prop := ∀ (M : Mem) (a u : Nat) (R : List (List Nat)),
  M[p]? = some (ob T q a u) → M[q]? = some (.lst []) → (T.map (·.1)).drop a = t.tk ++ R → R ≠ [] → u + t.un ≤ 60 →
  ∃ M', runF P K 17 [.obj p, .int d] M = .ok t.p M' ∧ M'[p]? = some (ob T q (a + t.tk.length) (u + t.un)) ∧ Fr p M M'
def PatS (P : Prog) (T : List Tok) (p q K : Nat) (t : Tr) (d : Nat) : Prop := ∀ (M : Mem) (a u : Nat) (x : List Nat) (R : List (List Nat)),
  M[p]? = some (ob T q a u) → M[q]? = some (.lst []) → (T.map (·.1)).drop a = t.tk ++ x :: R → x ≠ [94] → x ≠ [58] → u + t.un ≤ 60 →
  ∃ M', runF P K 16 [.obj p, .int d] M = .ok t.p M' ∧ M'[p]? = some (ob T q (a + t.tk.length) (u + t.un)) ∧ Fr p M M'
end Cy
end

section
set_option linter.all false
set_option maxRecDepth 100000
set_option maxHeartbeats 4000000
/-! Plain: groups. -/
namespace Cy
theorem xs_ifx {C : Cn} {r r' : Env} {M M1 : Mem} {c : Ex} {s u v : St} (h : evE C c r M = .ok (.bl true) M) (k : exS C s r M = .nx r' M1) : exS C (.seq (.ite c s u) v) r M = exS C v r' M1 := by
  rw [q_seq, q_if, h]
  dsimp only
  rw [k]
def BodyS (P : Prog) (T : List Tok) (p q K f : Nat) (x : List Nat) (X : List (List Nat)) (n : Nat) (v : D) (d : Nat) : Prop := ∀ (M : Mem) (a u : Nat) (R : List (List Nat)),
  M[p]? = some (ob T q a u) → M[q]? = some (.lst []) → (T.map (·.1)).drop a = X ++ R → R ≠ [] → u + n ≤ 60 →
  ∃ M', runF P K f [.obj p, .str x, .int d] M = .ok v M' ∧ M'[p]? = some (ob T q (a + X.length) (u + n)) ∧ Fr p M M'
section
variable {P : Prog} (H : ParP P) {T : List Tok} {p q : Nat} (hpq : q ≠ p)
include H
theorem unit_rest {d : Nat} (hd : d ≤ 12) (k : Nat) : UnitS P T p q (k + 1) .rest d := by
  intro M a u R hM hq ht hR hu
  obtain ⟨pl, t1, t2⟩ := tk_at (x := [95]) (R := R) ht
  refine ⟨M.set p (ob T q (a + 1) (u + 1)), ?_, get_set (lt_of_get hM), Fr.set Fr.refl⟩
  rw [run_eq H.unit rfl]
  show (exS _ Bd.b17 [some (.obj p), some (.int d), none, none] M).res = _
  rw [unit_head H rfl hM t1 hu hd]
  unfold unitT
  rw [xs_ift rfl rfl]
  rfl
theorem unit_word {d : Nat} {w : List Nat} (hw : okWord w = true) (hd : d ≤ 12) (k : Nat) : UnitS P T p q (k + 1) (.word w) d := by
  intro M a u R hM hq ht hR hu
  obtain ⟨pl, t1, t2⟩ := tk_at (x := w) (R := R) ht
  unfold okWord at hw
  simp only [Bool.and_eq_true, Bool.not_eq_true'] at hw
  obtain ⟨⟨⟨h1, h2⟩, h3⟩, h4⟩ := hw
  cases w with
  | nil => cases h2
  | cons c r =>
    simp only [List.all_cons, Bool.and_eq_true] at h1
    have hf : ft (c :: r) = true := by
      show (letters.contains c || (r.isEmpty && [95, 40, 91, 123].contains c)) = true
      rw [h1.1]; rfl
    have n95 : (c :: r == [95]) = false := by
      have : c ≠ 95 := fun e => by subst e; have := h1.1; revert this; decide
      simp [this]
    refine ⟨M.set p (ob T q (a + 1) (u + 1)), ?_, get_set (lt_of_get hM), Fr.set Fr.refl⟩
    rw [run_eq H.unit rfl]
    show (exS _ Bd.b17 [some (.obj p), some (.int d), none, none] M).res = _
    rw [unit_head H hf hM t1 hu hd]
    unfold unitT
    have c1 : (P.cn (runF P k)).con 175 = some (.tup [.str [109, 105, 114, 114, 111, 114], .str [108, 97, 116, 101], .str [101, 97, 99, 104]]) := H.keywords
    have c2 : (P.cn (runF P k)).con 172 = some (.str letters) := H.letters
    rw [xs_iff (xe_cmp (k := false) (xe_var rfl) rfl (by rw [cop_eqS, n95]))]
    rw [xs_iff (xe_cmp (k := false) (xe_var rfl) (xe_gl c1) (by rw [inn_kw, h4]))]
    rw [xs_ift (xe_cmp (k := true) (xe_idx (z := .str [c]) (xe_var rfl) rfl (by
      show (atI (c :: r) 0).map _ = _
      rw [atI_0]; rfl)) (xe_gl c2) (by
      show some (letters.contains c) = _
      rw [h1.1])) rfl]
    rfl
theorem unit_kw {d K n : Nat} {t : Tr} {x : List Nat} {X : List (List Nat)} (hx : keywords.contains x = true) (tk : t.tk = x :: X) (un : t.un = 1 + n) (hd : d ≤ 12) (h : BodyS P T p q K 19 x X n t.p d) : UnitS P T p q (K + 1) t d := by
  intro M a u R hM hq ht hR hu
  rw [tk] at ht
  obtain ⟨pl, t1, t2⟩ := tk_at (x := x) (R := X ++ R) ht
  have hf : ft x = true := (by decide : ∀ x ∈ keywords, ft x = true) x (by simpa using hx)
  have n95 : (x == [95]) = false := (by decide : ∀ x ∈ keywords, (x == [95]) = false) x (by simpa using hx)
  cases x with
  | nil => cases hf
  | cons c r =>
    have hl := lt_of_get hM
    by_cases hqp : q = p
    · subst hqp
      rw [hM] at hq
      cases hq
    have hq1 : (M.set p (ob T q (a + 1) (u + 1)))[q]? = some (.lst []) := by
      rw [List.getElem?_set_ne (Ne.symm hqp)]
      exact hq
    have hM1 : (M.set p (ob T q (a + 1) (u + 1)))[p]? = some (ob T q (a + 1) (u + 1)) := get_set hl
    obtain ⟨M', e, e1, e2⟩ := h (M.set p (ob T q (a + 1) (u + 1))) (a + 1) (u + 1) R hM1 hq1 t2 hR (by omega)
    refine ⟨M', ?_, ?_, (Fr.set Fr.refl).trans e2⟩
    · rw [run_eq H.unit rfl]
      show (exS _ Bd.b17 [some (.obj p), some (.int d), none, none] M).res = _
      rw [unit_head H hf hM t1 (by omega) hd]
      unfold unitT
      have c1 : (P.cn (runF P K)).con 175 = some (.tup [.str [109, 105, 114, 114, 111, 114], .str [108, 97, 116, 101], .str [101, 97, 99, 104]]) := H.keywords
      rw [xs_iff (xe_cmp (k := false) (xe_var rfl) rfl (by rw [cop_eqS, n95]))]
      rw [xs_ift (xe_cmp (k := true) (xe_var rfl) (xe_gl c1) (by rw [inn_kw, hx])) (xe_meth H.m19 (xe_var rfl) hM1 rfl (xa_2 (xe_var rfl) (xe_var rfl)) e)]
      rfl
    · rw [e1, tk, un, List.length_cons]
      congr 2 <;> omega
theorem unit_grp {d K n : Nat} {t : Tr} {x : List Nat} {X : List (List Nat)} (hx : x ∈ [[40], [91], [123]]) (tk : t.tk = x :: X) (un : t.un = 1 + n) (hd : d ≤ 12) (h : BodyS P T p q K 18 x X n t.p d) : UnitS P T p q (K + 1) t d := by
  intro M a u R hM hq ht hR hu
  rw [tk] at ht
  obtain ⟨pl, t1, t2⟩ := tk_at (x := x) (R := X ++ R) ht
  have hf : ft x = true := (by decide : ∀ x ∈ [[40], [91], [123]], ft x = true) x hx
  have n95 : (x == [95]) = false := (by decide : ∀ x ∈ [[40], [91], [123]], (x == [95]) = false) x hx
  have nkw : keywords.contains x = false := (by decide : ∀ x ∈ [[40], [91], [123]], keywords.contains x = false) x hx
  have nlet : ∀ c r, x = c :: r → letters.contains c = false := fun c r e => by
    simp only [List.mem_cons, List.not_mem_nil, or_false] at hx
    rcases hx with h | h | h <;> (rw [h] at e; cases e; decide)
  cases x with
  | nil => cases hf
  | cons c r =>
    have hl := lt_of_get hM
    by_cases hqp : q = p
    · subst hqp
      rw [hM] at hq
      cases hq
    have hq1 : (M.set p (ob T q (a + 1) (u + 1)))[q]? = some (.lst []) := by
      rw [List.getElem?_set_ne (Ne.symm hqp)]
      exact hq
    have hM1 : (M.set p (ob T q (a + 1) (u + 1)))[p]? = some (ob T q (a + 1) (u + 1)) := get_set hl
    obtain ⟨M', e, e1, e2⟩ := h (M.set p (ob T q (a + 1) (u + 1))) (a + 1) (u + 1) R hM1 hq1 t2 hR (by omega)
    refine ⟨M', ?_, ?_, (Fr.set Fr.refl).trans e2⟩
    · rw [run_eq H.unit rfl]
      show (exS _ Bd.b17 [some (.obj p), some (.int d), none, none] M).res = _
      rw [unit_head H hf hM t1 (by omega) hd]
      unfold unitT
      have c1 : (P.cn (runF P K)).con 175 = some (.tup [.str [109, 105, 114, 114, 111, 114], .str [108, 97, 116, 101], .str [101, 97, 99, 104]]) := H.keywords
      have c2 : (P.cn (runF P K)).con 172 = some (.str letters) := H.letters
      rw [xs_iff (xe_cmp (k := false) (xe_var rfl) rfl (by rw [cop_eqS, n95]))]
      rw [xs_iff (xe_cmp (k := false) (xe_var rfl) (xe_gl c1) (by rw [inn_kw, nkw]))]
      rw [xs_iff (xe_cmp (k := false) (xe_idx (z := .str [c]) (xe_var rfl) rfl (by
        show (atI (c :: r) 0).map _ = _
        rw [atI_0]; rfl)) (xe_gl c2) (by
        show some (letters.contains c) = _
        rw [nlet c r rfl]))]
      rw [xs_ret (xe_meth H.m18 (xe_var rfl) hM1 rfl (xa_2 (xe_var rfl) (xe_var rfl)) e)]
      rfl
    · rw [e1, tk, un, List.length_cons]
      congr 2 <;> omega
end
/-! ### groups -/
def grpD : D := .dct [[40], [91], [123]] [.tup [.str [114, 111, 119], .str [41]], .tup [.str [108, 97, 121, 101, 114, 115], .str [93]], .tup [.str [116, 117, 114, 110, 115], .str [125]]]
def grC : Ex := .cmp .ne (.meth 183 184 (.var 0) .nil) (.var 6)
def grB : St := .seq (.ite (.cmp .eq (.var 5) (.cS [108, 97, 121, 101, 114, 115]))
      (.seq (.exp (.meth 183 186 (.var 0) (.cons (.cS [43]) .nil)))
      .nop)
      .nop)
      (.seq (.exp (.bm .append (.var 4) (.cons (.meth 183 189 (.var 0) (.cons (.bin .add (.var 2) (.cI 1)) .nil)) .nil)))
      .nop)
def sepOf (lay : Bool) : List (List Nat) := if lay then [[43]] else []
theorem grp_next {lay : Bool} {cl : List Nat} {R : List (List Nat)} (h1 : cl ≠ [94]) (h2 : cl ≠ [58]) : ∀ {ts : List Tr}, (∀ t ∈ ts, ∃ n d, Tr.val n d t) → ∃ y R', Tr.tkR (sepOf lay) ts ++ cl :: R = y :: R' ∧ y ≠ [94] ∧ y ≠ [58]
  | [], _ => ⟨cl, R, rfl, h1, h2⟩
  | t :: ts, h => by
    cases lay with
    | true => exact ⟨[43], _, rfl, by decide, by decide⟩
    | false =>
      obtain ⟨n, d, hv⟩ := h t List.mem_cons_self
      obtain ⟨x, X, e, f⟩ := tk_head hv
      refine ⟨x, X ++ Tr.tkR [] ts ++ cl :: R, ?_, (ft_no f).1, (ft_no f).2.1⟩
      show [] ++ (t.tk ++ Tr.tkR [] ts) ++ cl :: R = _
      rw [e]
      simp
section
variable {P : Prog} (H : ParP P) {T : List Tok} {p q : Nat} (hpq : q ≠ p)
include H hpq
theorem group_loop {K d li : Nat} {x0 nm cl : List Nat} {lay : Bool} {g : D} (hlay : ∀ M, cop .eq (.str nm) (.str [108, 97, 121, 101, 114, 115]) M = some lay) (hcl : cl = [41] ∨ cl = [93] ∨ cl = [125]) (hlp : li ≠ p) (hlq : li ≠ q) :
    ∀ (ts : List Tr) (M : Mem) (a u n : Nat) (xs : List D) (R : List (List Nat)), (∀ t ∈ ts, PatS P T p q (K + 2) t (d + 1) ∧ ∃ n d, Tr.val n d t) → M[p]? = some (ob T q a u) → M[q]? = some (.lst []) → M[li]? = some (.lst xs) →
      (T.map (·.1)).drop a = Tr.tkR (sepOf lay) ts ++ cl :: R → u + Tr.unL ts ≤ 60 → xs.length + ts.length < top → ts.length < n →
      ∃ M', loopW (evE (P.cn (runF P (K + 2))) grC) (exS (P.cn (runF P (K + 2))) grB) n [some (.obj p), some (.str x0), some (.int d), some g, some (.obj li), some (.str nm), some (.str cl)] M =
          .nx [some (.obj p), some (.str x0), some (.int d), some g, some (.obj li), some (.str nm), some (.str cl)] M' ∧
        M'[p]? = some (ob T q (a + (Tr.tkR (sepOf lay) ts).length) (u + Tr.unL ts)) ∧ M'[li]? = some (.lst (xs ++ ts.map Tr.p)) ∧ (∀ M0 : Mem, M0.length ≤ li → Fr p M0 M → Fr p M0 M')
  | [], M, a, u, n, xs, R, _, hM, hq, hx, ht, hu, hl, hn => by
    obtain ⟨m, rfl⟩ : ∃ m, n = m + 1 := ⟨n - 1, by simp at hn; omega⟩
    obtain ⟨pl, t1, t2⟩ := tk_at (x := cl) (R := R) ht
    refine ⟨M, w_end (xe_cmp (k := false) (xe_peek H rfl rfl hM t1) (xe_var rfl) (by rw [cop_neS]; simp)), ?_, ?_, fun _ _ h => h⟩
    · exact hM
    · rw [List.map_nil, List.append_nil]; exact hx
  | t :: ts, M, a, u, n, xs, R, hc, hM, hq, hx, ht, hu, hl, hn => by
    obtain ⟨m, rfl⟩ : ∃ m, n = m + 1 := ⟨n - 1, by simp at hn; omega⟩
    obtain ⟨pt, nv, dv, hv⟩ := hc t List.mem_cons_self
    have hu : u + (t.un + Tr.unL ts) ≤ 60 := hu
    have ht : (T.map (·.1)).drop a = sepOf lay ++ (t.tk ++ Tr.tkR (sepOf lay) ts) ++ cl :: R := ht
    simp only [List.length_cons] at hl hn
    have cl1 : cl ≠ [94] := by rcases hcl with e | e | e <;> subst e <;> decide
    have cl2 : cl ≠ [58] := by rcases hcl with e | e | e <;> subst e <;> decide
    obtain ⟨y, R', hy, y1, y2⟩ := grp_next (lay := lay) (R := R) cl1 cl2 (ts := ts) fun t ht => (hc t (List.mem_cons_of_mem _ ht)).2
    -- the separator
    have S : ∃ M1, M1[p]? = some (ob T q (a + (sepOf lay).length) u) ∧ M1[q]? = some (.lst []) ∧ M1[li]? = some (.lst xs) ∧ Fr p M M1 ∧
        evE (P.cn (runF P (K + 2))) grC [some (.obj p), some (.str x0), some (.int d), some g, some (.obj li), some (.str nm), some (.str cl)] M = .ok (.bl true) M ∧
        exS (P.cn (runF P (K + 2))) grB [some (.obj p), some (.str x0), some (.int d), some g, some (.obj li), some (.str nm), some (.str cl)] M =
          exS (P.cn (runF P (K + 2))) (.seq (.exp (.bm .append (.var 4) (.cons (.meth 183 189 (.var 0) (.cons (.bin .add (.var 2) (.cI 1)) .nil)) .nil))) .nop) [some (.obj p), some (.str x0), some (.int d), some g, some (.obj li), some (.str nm), some (.str cl)] M1 := by
      cases lay with
      | false =>
        obtain ⟨x, X, e, f⟩ := tk_head hv
        have ht2 : (T.map (·.1)).drop a = x :: (X ++ Tr.tkR [] ts ++ cl :: R) := by
          rw [ht]
          show [] ++ (t.tk ++ Tr.tkR [] ts) ++ cl :: R = _
          rw [e]
          simp
        obtain ⟨pl, t1, _⟩ := tk_at ht2
        have nf := ft_no f
        have ne : (x == cl) = false := by
          have : x ≠ cl := by
            rcases hcl with e | e | e
            · subst e; exact nf.2.2.1
            · subst e; exact nf.2.2.2.1
            · subst e; exact nf.2.2.2.2.1
          simpa using this
        refine ⟨M, hM, hq, hx, Fr.refl, xe_cmp (k := true) (xe_peek H rfl rfl hM t1) (xe_var rfl) (by rw [cop_neS, ne]; rfl), ?_⟩
        unfold grB
        rw [xs_iff (xe_cmp (k := false) (xe_var rfl) rfl (hlay _))]
      | true =>
        have ht2 : (T.map (·.1)).drop a = [43] :: ((t.tk ++ Tr.tkR [[43]] ts) ++ cl :: R) := ht
        obtain ⟨pl, t1, _⟩ := tk_at ht2
        have ne : ([43] == cl) = false := by rcases hcl with e | e | e <;> subst e <;> decide
        refine ⟨M.set p (ob T q (a + 1) u), get_set (lt_of_get hM), ?_, ?_, Fr.set Fr.refl, xe_cmp (k := true) (xe_peek H rfl rfl hM t1) (xe_var rfl) (by rw [cop_neS, ne]; rfl), ?_⟩
        · rw [List.getElem?_set_ne (Ne.symm hpq)]; exact hq
        · rw [List.getElem?_set_ne (Ne.symm hlp)]; exact hx
        · unfold grB
          rw [xs_ifx (xe_cmp (k := true) (xe_var rfl) rfl (hlay _)) ((xs_expect H rfl hM t1).trans q_nop)]
    obtain ⟨M1, m1, m2, m3, m4, m5, m6⟩ := S
    have ht1 : (T.map (·.1)).drop (a + (sepOf lay).length) = t.tk ++ y :: R' := by
      rw [← hy]
      have := tk_drop (X := sepOf lay) (R := (t.tk ++ Tr.tkR (sepOf lay) ts) ++ cl :: R) (by rw [ht, List.append_assoc])
      rw [this, List.append_assoc]
    obtain ⟨M2, e, k1, k2⟩ := pt M1 (a + (sepOf lay).length) u y R' m1 m2 ht1 y1 y2 (by omega)
    have x2 : M2[li]? = some (.lst xs) := k2.get m3 hlp
    have x3 : (M2.set li (.lst (xs ++ [t.p])))[p]? = some (ob T q (a + (sepOf lay).length + t.tk.length) (u + t.un)) := by
      rw [List.getElem?_set_ne hlp]; exact k1
    have x4 : (M2.set li (.lst (xs ++ [t.p])))[q]? = some (.lst []) := by
      rw [List.getElem?_set_ne hlq]; exact k2.get m2 hpq
    have x5 : (M2.set li (.lst (xs ++ [t.p])))[li]? = some (.lst (xs ++ [t.p])) := get_set (lt_of_get x2)
    have ht3 := tk_drop ht1
    rw [← hy] at ht3
    obtain ⟨M', e', l1, l2, l3⟩ := group_loop hlay hcl hlp hlq ts (M2.set li (.lst (xs ++ [t.p]))) (a + (sepOf lay).length + t.tk.length) (u + t.un) m (xs ++ [t.p]) R (fun t ht => hc t (List.mem_cons_of_mem _ ht)) x3 x4 x5 ht3 (by omega) (by simp; omega) (by omega)
    refine ⟨M', ?_, ?_, ?_, ?_⟩
    · rw [w_step m5 (m6.trans ((xs_app H rfl rfl rfl m1 e m3 x2 (by omega)).trans q_nop))]
      exact e'
    · rw [l1]
      show _ = some (ob T q (a + (sepOf lay ++ (t.tk ++ Tr.tkR (sepOf lay) ts)).length) (u + (t.un + Tr.unL ts)))
      rw [List.length_append, List.length_append]
      congr 2 <;> omega
    · rw [l2]; simp
    · intro M0 h0 hf
      exact l3 M0 h0 (((hf.trans m4).trans k2).new h0)
end
end Cy
end

section
set_option linter.all false
set_option maxRecDepth 100000
set_option maxHeartbeats 4000000
/-! Plain: the parser on valid tokens: groups, calls, units, patterns. -/
namespace Cy
theorem xe_lstT1 {C : Cn} {r : Env} {M M1 : Mem} {a : Ex} {x : D} (h : evE C a r M = .ok x M1) : evE C (.lst true (.cons a .nil)) r M = .ok (.obj M1.length) (M1 ++ [.lst [x]]) := by
  rw [q_lst1, h]
  rfl
theorem app_get {M : Mem} {x : MO} : (M ++ [x])[M.length]? = some x := by
  rw [List.getElem?_append_right (Nat.le_refl _), Nat.sub_self]
  rfl
theorem app_old {M : Mem} {x y : MO} {l : Nat} (h : M[l]? = some y) : (M ++ [x])[l]? = some y := by
  rw [List.getElem?_append_left (lt_of_get h)]
  exact h
section
variable {P : Prog} (H : ParP P) {T : List Tok} {p q : Nat} (hpq : q ≠ p)
include H hpq
theorem group_run {K d : Nat} {x0 nm cl : List Nat} {lay : Bool} {t0 : Tr} {ts : List Tr} (hf : index grpD (.str x0) = some (.tup [.str nm, .str cl])) (hlay : ∀ M, cop .eq (.str nm) (.str [108, 97, 121, 101, 114, 115]) M = some lay) (hcl : cl = [41] ∨ cl = [93] ∨ cl = [125])
    (hl : ts.length < 1000000) (hc : ∀ t ∈ t0 :: ts, PatS P T p q (K + 2) t (d + 1) ∧ ∃ n d, Tr.val n d t) :
    BodyS P T p q (K + 3) 18 x0 (t0.tk ++ (Tr.tkR (sepOf lay) ts ++ [cl])) (t0.un + Tr.unL ts) (.tup [.str nm, .non, .tup ((t0 :: ts).map Tr.p)]) d := by
  intro M a u R hM hq ht hR hu
  have cl1 : cl ≠ [94] := by rcases hcl with e | e | e <;> subst e <;> decide
  have cl2 : cl ≠ [58] := by rcases hcl with e | e | e <;> subst e <;> decide
  have hc' : ∀ t ∈ ts, PatS P T p q (K + 2) t (d + 1) ∧ ∃ n d, Tr.val n d t := fun t ht => hc t (List.mem_cons_of_mem _ ht)
  obtain ⟨y, R', hy, y1, y2⟩ := grp_next (lay := lay) (R := R) cl1 cl2 (ts := ts) fun t ht => (hc' t ht).2
  have ht1 : (T.map (·.1)).drop a = t0.tk ++ y :: R' := by
    rw [ht, ← hy]
    simp
  obtain ⟨M1, e, k1, k2⟩ := (hc t0 List.mem_cons_self).1 M a u y R' hM hq ht1 y1 y2 (by omega)
  have lp := lt_of_get hM
  have lq := lt_of_get hq
  have hlp : M1.length ≠ p := by have := k2.1; omega
  have hlq : M1.length ≠ q := by have := k2.1; omega
  have ht3 := tk_drop ht1
  rw [← hy] at ht3
  obtain ⟨M', e', l1, l2, l3⟩ := group_loop H hpq (K := K) (d := d) (x0 := x0) (nm := nm) (cl := cl) (g := grpD) hlay hcl hlp hlq ts (M1 ++ [.lst [t0.p]]) (a + t0.tk.length) (u + t0.un) 1000000 [t0.p] R hc' (app_old k1) (app_old (k2.get hq hpq)) app_get ht3 (by omega) (by unfold top; simp; omega) (by omega)
  have ly : y = cl ∨ True := .inr trivial
  obtain ⟨plc, c1, _⟩ := tk_at (T := T) (a := a + t0.tk.length + (Tr.tkR (sepOf lay) ts).length) (x := cl) (R := R) (tk_drop ht3)
  refine ⟨M'.set p (ob T q (a + t0.tk.length + (Tr.tkR (sepOf lay) ts).length + 1) (u + t0.un + Tr.unL ts)), ?_, ?_, ?_⟩
  · rw [run_eq H.group rfl]
    show (exS _ Bd.b18 [some (.obj p), some (.str x0), some (.int d), none, none, none, none] M).res = _
    unfold Bd.b18
    rw [xs_set (x := grpD) rfl]
    show (exS _ _ [some (.obj p), some (.str x0), some (.int d), some grpD, none, none, none] M).res = _
    rw [xs_tp2 (xe_idx (x := grpD) (y := .str x0) (z := .tup [.str nm, .str cl]) (xe_var rfl) (xe_var rfl) hf)]
    show (exS _ _ [some (.obj p), some (.str x0), some (.int d), some grpD, none, some (.str nm), some (.str cl)] M).res = _
    rw [xs_set (xe_lstT1 (xe_meth H.m16 (xe_var rfl) hM rfl (xa_1 (xe_bin (xe_var rfl) rfl rfl)) e))]
    show (exS _ (.seq (.whl 1000000 grC grB) _) [some (.obj p), some (.str x0), some (.int d), some grpD, some (.obj M1.length), some (.str nm), some (.str cl)] (M1 ++ [.lst [t0.p]])).res = _
    rw [xs_whl e']
    rw [xs_fldA (xe_var rfl) l1 rfl H.a197 rfl rfl]
    have hl' : p < M'.length := lt_of_get l1
    show (exS _ _ _ (M'.set p (ob T q (a + t0.tk.length + (Tr.tkR (sepOf lay) ts).length + 1) (u + t0.un + Tr.unL ts)))).res = _
    have l4 : (M'.set p (ob T q (a + t0.tk.length + (Tr.tkR (sepOf lay) ts).length + 1) (u + t0.un + Tr.unL ts)))[M1.length]? = some (.lst ([t0.p] ++ ts.map Tr.p)) := by
      rw [List.getElem?_set_ne (Ne.symm hlp)]; exact l2
    rw [xs_ret (xe_tup3 (xe_var rfl) rfl (xe_tuple (xe_var rfl) l4))]
    rfl
  · rw [get_set (lt_of_get l1), List.length_append, List.length_append]
    congr 2 <;> (try simp only [List.length_cons, List.length_nil]) <;> omega
  · exact (l3 M k2.1 k2.app).set
/-- mirror(..) -/
theorem rev_run {K d : Nat} {t : Tr} (hc : PatS P T p q (K + 2) t (d + 1)) : BodyS P T p q (K + 3) 19 [109, 105, 114, 114, 111, 114] ([40] :: (t.tk ++ [[41]])) t.un (Tr.rev t).p d := by
  intro M a u R hM hq ht hR hu
  obtain ⟨pl1, t1, ht1⟩ := tk_at (x := [40]) (R := (t.tk ++ [[41]]) ++ R) ht
  have lp := lt_of_get hM
  have lq := lt_of_get hq
  have m1 : (M.set p (ob T q (a + 1) u))[p]? = some (ob T q (a + 1) u) := get_set lp
  have q1 : (M.set p (ob T q (a + 1) u))[q]? = some (.lst []) := by rw [List.getElem?_set_ne (Ne.symm hpq)]; exact hq
  have ht2 : (T.map (·.1)).drop (a + 1) = t.tk ++ [41] :: R := by rw [ht1, List.append_assoc]; rfl
  obtain ⟨M2, e, k1, k2⟩ := hc (M.set p (ob T q (a + 1) u) ++ [.lst []]) (a + 1) u [41] R (app_old m1) (app_old q1) ht2 (by decide) (by decide) hu
  obtain ⟨pl3, t3, _⟩ := tk_at (T := T) (x := [41]) (R := R) (tk_drop ht2)
  have li : (M.set p (ob T q (a + 1) u)).length = M.length := List.length_set
  have hlp : M.length ≠ p := by omega
  have g4 : (M.set p (ob T q (a + 1) u) ++ [MO.lst []])[M.length]? = some (.lst []) := by rw [← li]; exact app_get
  have g5 : M2[M.length]? = some (.lst []) := k2.get g4 hlp
  have p5 : (M2.set M.length (.lst [t.p]))[p]? = some (ob T q (a + 1 + t.tk.length) (u + t.un)) := by rw [List.getElem?_set_ne hlp]; exact k1
  refine ⟨(M2.set M.length (.lst [t.p])).set p (ob T q (a + 1 + t.tk.length + 1) (u + t.un)), ?_, ?_, ?_⟩
  · rw [run_eq H.call rfl]
    show (exS _ Bd.b19 [some (.obj p), some (.str [109, 105, 114, 114, 111, 114]), some (.int d), none, none, none, none, none] M).res = _
    unfold Bd.b19
    rw [xs_expect H rfl hM t1]
    rw [q_seq]
    show (exS _ _ [some (.obj p), some (.str [109, 105, 114, 114, 111, 114]), some (.int d), some .non, some (.obj (M.set p (ob T q (a + 1) u)).length), none, none, none] (M.set p (ob T q (a + 1) u) ++ [.lst []])).res = _
    rw [li]
    rw [xs_iff rfl, xs_iff rfl]
    rw [xs_app H rfl rfl rfl (app_old m1) e g4 g5 (by decide)]
    rw [show ([] : List D) ++ [t.p] = [t.p] from rfl]
    rw [xs_expect H rfl p5 t3]
    have g6 : ((M2.set M.length (.lst [t.p])).set p (ob T q (a + 1 + t.tk.length + 1) (u + t.un)))[M.length]? = some (.lst [t.p]) := by
      rw [List.getElem?_set_ne (Ne.symm hlp)]
      exact get_set (lt_of_get g5)
    rw [xs_ret (xe_tup3 (xe_var rfl) (xe_var rfl) (xe_tuple (xe_var rfl) g6))]
    rfl
  · rw [get_set (lt_of_get p5), List.length_cons, List.length_append]
    congr 2
    simp only [List.length_cons, List.length_nil]
    omega
  · have f1 : Fr p M (M.set p (ob T q (a + 1) u) ++ [.lst []]) := (Fr.set Fr.refl).app
    exact ((f1.trans k2).new (Nat.le_refl _)).set
/-- late(a/b, ..) -/
theorem late_run {K d i j : Nat} {t : Tr} (hij : i < j) (hj : j ≤ 64) (hc : PatS P T p q (K + 2) t (d + 1)) : BodyS P T p q (K + 3) 19 [108, 97, 116, 101] ([40] :: numT i :: [47] :: numT j :: [44] :: (t.tk ++ [[41]])) t.un (Tr.shift i j t).p d := by
  intro M a u R hM hq ht hR hu
  obtain ⟨pl1, t1, ht1⟩ := tk_at (x := [40]) (R := numT i :: [47] :: numT j :: [44] :: (t.tk ++ [[41]]) ++ R) ht
  obtain ⟨pl2, t2, ht2⟩ := tk_at (x := numT i) (R := [47] :: numT j :: [44] :: (t.tk ++ [[41]]) ++ R) ht1
  obtain ⟨pl3, t3, ht3⟩ := tk_at (x := [47]) (R := numT j :: [44] :: (t.tk ++ [[41]]) ++ R) ht2
  obtain ⟨pl4, t4, ht4⟩ := tk_at (x := numT j) (R := [44] :: (t.tk ++ [[41]]) ++ R) ht3
  obtain ⟨pl5, t5, ht5⟩ := tk_at (x := [44]) (R := (t.tk ++ [[41]]) ++ R) ht4
  have lp := lt_of_get hM
  have lq := lt_of_get hq
  have m1 : ∀ b, (M.set p (ob T q b u))[p]? = some (ob T q b u) := fun b => get_set lp
  have q1 : ∀ b, (M.set p (ob T q b u))[q]? = some (.lst []) := fun b => by rw [List.getElem?_set_ne (Ne.symm hpq)]; exact hq
  have li : ∀ b, (M.set p (ob T q b u)).length = M.length := fun b => List.length_set
  have hlp : M.length ≠ p := by omega
  -- the memory with the new list, the object at a place
  have s1 : ∀ b c, (M.set p (ob T q b u) ++ [MO.lst []]).set p (ob T q c u) = M.set p (ob T q c u) ++ [MO.lst []] := fun b c => by
    rw [List.set_append_left _ _ (by rw [li]; exact lp), List.set_set]
  have mo : ∀ b, (M.set p (ob T q b u) ++ [MO.lst []])[p]? = some (ob T q b u) := fun b => app_old (m1 b)
  have g4 : ∀ b, (M.set p (ob T q b u) ++ [MO.lst []])[M.length]? = some (.lst []) := fun b => by rw [← li b]; exact app_get
  have ht6 : (T.map (·.1)).drop (a + 1 + 1 + 1 + 1 + 1) = t.tk ++ [41] :: R := by rw [ht5, List.append_assoc]; rfl
  obtain ⟨M2, e, k1, k2⟩ := hc (M.set p (ob T q (a + 1 + 1 + 1 + 1 + 1) u) ++ [.lst []]) (a + 1 + 1 + 1 + 1 + 1) u [41] R (mo _) (app_old (q1 _)) ht6 (by decide) (by decide) hu
  obtain ⟨pl7, t7, _⟩ := tk_at (T := T) (x := [41]) (R := R) (tk_drop ht6)
  have g5 : M2[M.length]? = some (.lst []) := k2.get (g4 _) hlp
  have p5 : (M2.set M.length (.lst [t.p]))[p]? = some (ob T q (a + 1 + 1 + 1 + 1 + 1 + t.tk.length) (u + t.un)) := by rw [List.getElem?_set_ne hlp]; exact k1
  refine ⟨(M2.set M.length (.lst [t.p])).set p (ob T q (a + 1 + 1 + 1 + 1 + 1 + t.tk.length + 1) (u + t.un)), ?_, ?_, ?_⟩
  · rw [run_eq H.call rfl]
    show (exS _ Bd.b19 [some (.obj p), some (.str [108, 97, 116, 101]), some (.int d), none, none, none, none, none] M).res = _
    unfold Bd.b19
    rw [xs_expect H rfl hM t1]
    rw [q_seq]
    show (exS _ _ [some (.obj p), some (.str [108, 97, 116, 101]), some (.int d), some .non, some (.obj (M.set p (ob T q (a + 1) u)).length), none, none, none] (M.set p (ob T q (a + 1) u) ++ [.lst []])).res = _
    rw [li]
    have num : ∀ (r : Env) (b n pl : Nat), n ≤ 100 → r[0]? = some (some (.obj p)) → T[b]? = some (numT n, pl) → evE (P.cn (runF P (K + 2))) (.meth 183 187 (.var 0) .nil) r (M.set p (ob T q b u) ++ [.lst []]) = .ok (.tup [.int n, .int pl]) (M.set p (ob T q (b + 1) u) ++ [.lst []]) := fun r b n pl hn hr ht => by
      have := number_run H hn (mo b) ht K
      rw [s1] at this
      exact xe_meth H.m14 (xe_var hr) (mo b) rfl xa_nil this
    have exq : ∀ (r : Env) (s : St) (x : List Nat) (b pl : Nat), r[0]? = some (some (.obj p)) → T[b]? = some (x, pl) →
        exS (P.cn (runF P (K + 2))) (.seq (.exp (.meth 183 186 (.var 0) (.cons (.cS x) .nil))) s) r (M.set p (ob T q b u) ++ [.lst []]) = exS (P.cn (runF P (K + 2))) s r (M.set p (ob T q (b + 1) u) ++ [.lst []]) := fun r s x b pl hr ht => by
      have := xs_expect H (r := r) (s := s) (k := K) hr (mo b) ht
      rw [s1] at this
      exact this
    have c64 : (P.cn (runF P (K + 2))).con 179 = some (.int 64) := H.maxDen
    rw [xs_ifx (r' := [some (.obj p), some (.str [108, 97, 116, 101]), some (.int d), some (.tup [.int i, .int j]), some (.obj M.length), some (.int j), some (.int i), some (.int pl2)]) (M1 := M.set p (ob T q (a + 1 + 1 + 1 + 1 + 1) u) ++ [.lst []]) rfl ?_]
    · rw [xs_iff rfl]
      rw [xs_app H rfl rfl rfl (mo _) e (g4 _) g5 (by decide)]
      rw [show ([] : List D) ++ [t.p] = [t.p] from rfl]
      rw [xs_expect H rfl p5 t7]
      have g6 : ((M2.set M.length (.lst [t.p])).set p (ob T q (a + 1 + 1 + 1 + 1 + 1 + t.tk.length + 1) (u + t.un)))[M.length]? = some (.lst [t.p]) := by
        rw [List.getElem?_set_ne (Ne.symm hlp)]
        exact get_set (lt_of_get g5)
      rw [xs_ret (xe_tup3 (xe_var rfl) (xe_var rfl) (xe_tuple (xe_var rfl) g6))]
      rfl
    · rw [xs_tp2 (num _ _ _ _ (by omega) rfl t2)]
      show exS _ _ [some (.obj p), some (.str [108, 97, 116, 101]), some (.int d), some .non, some (.obj M.length), none, some (.int i), some (.int pl2)] _ = _
      rw [exq _ _ _ _ _ rfl t3]
      rw [xs_set (xe_idx (z := .int j) (num _ _ _ _ (by omega) rfl t4) rfl rfl)]
      show exS _ _ [some (.obj p), some (.str [108, 97, 116, 101]), some (.int d), some .non, some (.obj M.length), some (.int j), some (.int i), some (.int pl2)] _ = _
      have d1 : decide ((0 : Int) ≤ (i : Int)) = true := decide_eq_true (by omega)
      have d2 : decide ((i : Int) < (j : Int)) = true := decide_eq_true (by omega)
      have d3 : decide ((j : Int) ≤ (64 : Int)) = true := decide_eq_true (by omega)
      rw [xs_iff (by
        rw [q_not]
        simp only [q_ch3, q_cI, q_var, q_gl, c64, cop_le, cop_lt, d1, d2, d3, List.getElem?_cons_succ, List.getElem?_cons_zero, Bool.not_true])]
      rw [xs_set (xe_tup2 (x := .int i) (y := .int j) (xe_var rfl) (xe_var rfl))]
      rw [exq _ _ _ _ _ rfl t5]
      rfl
  · rw [get_set (lt_of_get p5)]
    simp only [List.length_cons, List.length_nil, List.length_append]
    congr 2
    omega
  · have f1 : Fr p M (M.set p (ob T q (a + 1 + 1 + 1 + 1 + 1) u) ++ [.lst []]) := (Fr.set Fr.refl).app
    exact ((f1.trans k2).new (Nat.le_refl _)).set
/-- each(n, .., ..) -/
theorem each_run {K d i : Nat} {t v : Tr} (h1 : 1 ≤ i) (h2 : i ≤ 16) (hc : PatS P T p q (K + 3) t (d + 1)) (hv : PatS P T p q (K + 3) v (d + 1)) : BodyS P T p q (K + 4) 19 [101, 97, 99, 104] ([40] :: numT i :: [44] :: (t.tk ++ [44] :: (v.tk ++ [[41]]))) (t.un + v.un) (Tr.every i t v).p d := by
  intro M a u R hM hq ht hR hu
  obtain ⟨pl1, t1, ht1⟩ := tk_at (x := [40]) (R := numT i :: [44] :: (t.tk ++ [44] :: (v.tk ++ [[41]])) ++ R) ht
  obtain ⟨pl2, t2, ht2⟩ := tk_at (x := numT i) (R := [44] :: (t.tk ++ [44] :: (v.tk ++ [[41]])) ++ R) ht1
  obtain ⟨pl3, t3, ht3⟩ := tk_at (x := [44]) (R := (t.tk ++ [44] :: (v.tk ++ [[41]])) ++ R) ht2
  have lp := lt_of_get hM
  have lq := lt_of_get hq
  have m1 : ∀ b, (M.set p (ob T q b u))[p]? = some (ob T q b u) := fun b => get_set lp
  have q1 : ∀ b, (M.set p (ob T q b u))[q]? = some (.lst []) := fun b => by rw [List.getElem?_set_ne (Ne.symm hpq)]; exact hq
  have li : ∀ b, (M.set p (ob T q b u)).length = M.length := fun b => List.length_set
  have hlp : M.length ≠ p := by omega
  have hlq : M.length ≠ q := by omega
  have s1 : ∀ b c, (M.set p (ob T q b u) ++ [MO.lst []]).set p (ob T q c u) = M.set p (ob T q c u) ++ [MO.lst []] := fun b c => by
    rw [List.set_append_left _ _ (by rw [li]; exact lp), List.set_set]
  have mo : ∀ b, (M.set p (ob T q b u) ++ [MO.lst []])[p]? = some (ob T q b u) := fun b => app_old (m1 b)
  have g4 : ∀ b, (M.set p (ob T q b u) ++ [MO.lst []])[M.length]? = some (.lst []) := fun b => by rw [← li b]; exact app_get
  have ht4 : (T.map (·.1)).drop (a + 1 + 1 + 1) = t.tk ++ [44] :: (v.tk ++ [41] :: R) := by rw [ht3]; simp
  obtain ⟨M2, e, k1, k2⟩ := hc (M.set p (ob T q (a + 1 + 1 + 1) u) ++ [.lst []]) (a + 1 + 1 + 1) u [44] (v.tk ++ [41] :: R) (mo _) (app_old (q1 _)) ht4 (by decide) (by decide) (by omega)
  obtain ⟨pl5, t5, ht5⟩ := tk_at (T := T) (x := [44]) (R := v.tk ++ [41] :: R) (tk_drop ht4)
  have g5 : M2[M.length]? = some (.lst []) := k2.get (g4 _) hlp
  have p5 : (M2.set M.length (.lst [t.p]))[p]? = some (ob T q (a + 1 + 1 + 1 + t.tk.length) (u + t.un)) := by rw [List.getElem?_set_ne hlp]; exact k1
  have q5 : (M2.set M.length (.lst [t.p]))[q]? = some (.lst []) := by rw [List.getElem?_set_ne hlq]; exact k2.get (app_old (q1 _)) hpq
  have g6 : (M2.set M.length (.lst [t.p]))[M.length]? = some (.lst [t.p]) := get_set (lt_of_get g5)
  generalize hm3 : (M2.set M.length (.lst [t.p])).set p (ob T q (a + 1 + 1 + 1 + t.tk.length + 1) (u + t.un)) = M3
  have p6 : M3[p]? = some (ob T q (a + 1 + 1 + 1 + t.tk.length + 1) (u + t.un)) := by rw [← hm3]; exact get_set (lt_of_get p5)
  have q6 : M3[q]? = some (.lst []) := by rw [← hm3, List.getElem?_set_ne (Ne.symm hpq)]; exact q5
  have g7 : M3[M.length]? = some (.lst [t.p]) := by rw [← hm3, List.getElem?_set_ne (Ne.symm hlp)]; exact g6
  obtain ⟨M4, e4, k3, k4⟩ := hv M3 (a + 1 + 1 + 1 + t.tk.length + 1) (u + t.un) [41] R p6 q6 ht5 (by decide) (by decide) (by omega)
  obtain ⟨pl7, t7, _⟩ := tk_at (T := T) (x := [41]) (R := R) (tk_drop ht5)
  have g8 : M4[M.length]? = some (.lst [t.p]) := k4.get g7 hlp
  have p8 : (M4.set M.length (.lst [t.p, v.p]))[p]? = some (ob T q (a + 1 + 1 + 1 + t.tk.length + 1 + v.tk.length) (u + t.un + v.un)) := by rw [List.getElem?_set_ne hlp]; exact k3
  refine ⟨(M4.set M.length (.lst [t.p, v.p])).set p (ob T q (a + 1 + 1 + 1 + t.tk.length + 1 + v.tk.length + 1) (u + t.un + v.un)), ?_, ?_, ?_⟩
  · rw [run_eq H.call rfl]
    show (exS _ Bd.b19 [some (.obj p), some (.str [101, 97, 99, 104]), some (.int d), none, none, none, none, none] M).res = _
    unfold Bd.b19
    rw [xs_expect H (k := K + 1) rfl hM t1]
    rw [q_seq]
    show (exS _ _ [some (.obj p), some (.str [101, 97, 99, 104]), some (.int d), some .non, some (.obj (M.set p (ob T q (a + 1) u)).length), none, none, none] (M.set p (ob T q (a + 1) u) ++ [.lst []])).res = _
    rw [li]
    rw [xs_iff rfl]
    have cnt : ∀ (r : Env), r[0]? = some (some (.obj p)) → evE (P.cn (runF P (K + 3))) (.meth 183 188 (.var 0) .nil) r (M.set p (ob T q (a + 1) u) ++ [.lst []]) = .ok (.int i) (M.set p (ob T q (a + 1 + 1) u) ++ [.lst []]) := fun r hr => by
      have := count_run_ H h1 h2 (mo (a + 1)) t2 K
      rw [s1] at this
      exact xe_meth H.m15 (xe_var hr) (mo _) rfl xa_nil this
    have exq : ∀ (r : Env) (s : St) (x : List Nat) (b pl : Nat), r[0]? = some (some (.obj p)) → T[b]? = some (x, pl) →
        exS (P.cn (runF P (K + 3))) (.seq (.exp (.meth 183 186 (.var 0) (.cons (.cS x) .nil))) s) r (M.set p (ob T q b u) ++ [.lst []]) = exS (P.cn (runF P (K + 3))) s r (M.set p (ob T q (b + 1) u) ++ [.lst []]) := fun r s x b pl hr ht => by
      have := xs_expect H (r := r) (s := s) (k := K + 1) hr (mo b) ht
      rw [s1] at this
      exact this
    rw [xs_ifx (r' := [some (.obj p), some (.str [101, 97, 99, 104]), some (.int d), some (.int i), some (.obj M.length), none, none, none]) (M1 := M3) rfl ?_]
    · rw [xs_app H rfl rfl rfl p6 e4 g7 g8 (by unfold top; simp)]
      rw [show [t.p] ++ [v.p] = [t.p, v.p] from rfl]
      rw [xs_expect H (k := K + 1) rfl p8 t7]
      have g9 : ((M4.set M.length (.lst [t.p, v.p])).set p (ob T q (a + 1 + 1 + 1 + t.tk.length + 1 + v.tk.length + 1) (u + t.un + v.un)))[M.length]? = some (.lst [t.p, v.p]) := by
        rw [List.getElem?_set_ne (Ne.symm hlp)]
        exact get_set (lt_of_get g8)
      rw [xs_ret (xe_tup3 (xe_var rfl) (xe_var rfl) (xe_tuple (xe_var rfl) g9))]
      rfl
    · rw [xs_set (cnt _ rfl)]
      show exS _ _ [some (.obj p), some (.str [101, 97, 99, 104]), some (.int d), some (.int i), some (.obj M.length), none, none, none] _ = _
      rw [exq _ _ _ _ _ rfl t3]
      rw [xs_app H rfl rfl rfl (mo _) e (g4 _) g5 (by decide)]
      rw [show ([] : List D) ++ [t.p] = [t.p] from rfl]
      rw [xs_expect H (k := K + 1) rfl p5 t5]
      rw [q_nop, ← hm3]
  · rw [get_set (lt_of_get p8)]
    simp only [List.length_cons, List.length_nil, List.length_append]
    congr 2 <;> omega
  · have f1 : Fr p M (M.set p (ob T q (a + 1 + 1 + 1) u) ++ [.lst []]) := (Fr.set Fr.refl).app
    have f2 : Fr p M M3 := by rw [← hm3]; exact ((f1.trans k2).new (Nat.le_refl _)).set
    exact ((f2.trans k4).new (Nat.le_refl _)).set
end
end Cy
end

section
set_option linter.all false
set_option maxRecDepth 100000
set_option maxHeartbeats 4000000
/-! Plain: the parser takes every valid tree's tokens. -/
namespace Cy
/-! ### a tree is a unit with speeds behind it -/
def Tr.isU : Tr → Prop
  | .fast _ _ => False
  | .slow _ _ => False
  | _ => True
def appP (b : Tr) : List (Bool × Nat) → Tr
  | [] => b
  | (true, m) :: r => appP (.fast m b) r
  | (false, m) :: r => appP (.slow m b) r
def ptk : List (Bool × Nat) → List (List Nat)
  | [] => []
  | (f, m) :: r => [if f then 94 else 58] :: numT m :: ptk r
theorem appP_app {b : Tr} {r s : List (Bool × Nat)} : appP b (r ++ s) = appP (appP b r) s := by
  induction r generalizing b with
  | nil => rfl
  | cons x r ih => obtain ⟨f, m⟩ := x; cases f <;> exact ih
theorem ptk_app {r s : List (Bool × Nat)} : ptk (r ++ s) = ptk r ++ ptk s := by
  induction r with
  | nil => rfl
  | cons x r ih => obtain ⟨f, m⟩ := x; simp only [List.cons_append, ptk, ih]
theorem ptk_len {r : List (Bool × Nat)} : (ptk r).length = 2 * r.length := by
  induction r with
  | nil => rfl
  | cons x r ih => obtain ⟨f, m⟩ := x; simp only [ptk, List.length_cons, ih]; omega
theorem unit_post : ∀ {n d : Nat} {t : Tr}, Tr.val n d t → ∃ m b ps, m + ps.length ≤ n ∧ Tr.isU b ∧ Tr.val m d b ∧ t = appP b ps ∧ t.tk = b.tk ++ ptk ps ∧ t.un = b.un ∧ (∀ x ∈ ps, 1 ≤ x.2 ∧ x.2 ≤ 16) := by
  intro n
  induction n with
  | zero => intro d t h; cases t <;> first | exact h.elim | exact ⟨0, _, [], Nat.le_refl _, (by exact True.intro), h, rfl, by simp [ptk], rfl, by simp⟩
  | succ n ih =>
    intro d t h
    cases t with
    | fast m t =>
      obtain ⟨k, b, ps, h1, h2, h3, h4, h5, h6, h7⟩ := ih h.2
      refine ⟨k, b, ps ++ [(true, m)], by simp; omega, h2, h3, ?_, ?_, h6, ?_⟩
      · rw [appP_app, ← h4]; rfl
      · rw [ptk_app, ← List.append_assoc, ← h5]; rfl
      · intro x hx
        rcases List.mem_append.mp hx with e | e
        · exact h7 x e
        · simp only [List.mem_cons, List.not_mem_nil, or_false] at e; subst e; exact h.1
    | slow m t =>
      obtain ⟨k, b, ps, h1, h2, h3, h4, h5, h6, h7⟩ := ih h.2
      refine ⟨k, b, ps ++ [(false, m)], by simp; omega, h2, h3, ?_, ?_, h6, ?_⟩
      · rw [appP_app, ← h4]; rfl
      · rw [ptk_app, ← List.append_assoc, ← h5]; rfl
      · intro x hx
        rcases List.mem_append.mp hx with e | e
        · exact h7 x e
        · simp only [List.mem_cons, List.not_mem_nil, or_false] at e; subst e; exact h.1
    | _ => exact ⟨n + 1, _, [], Nat.le_refl _, (by exact True.intro), h, rfl, by simp [ptk], rfl, by simp⟩
theorem set_same {M : Mem} {l : Nat} {x : MO} (h : M[l]? = some x) : M.set l x = M := by
  apply List.ext_getElem?
  intro i
  by_cases e : l = i
  · subst e
    rw [get_set (lt_of_get h), h]
  · rw [List.getElem?_set_ne e]
def ppC : Ex := .or (.cmp .eq (.meth 183 184 (.var 0) .nil) (.cS [94])) (.cmp .eq (.meth 183 184 (.var 0) .nil) (.cS [58]))
def ppB : St := .seq (.set (.nm 3) (.ite (.cmp .eq (.meth 183 184 (.var 0) .nil) (.cS [94])) (.cS [102, 97, 115, 116]) (.cS [115, 108, 111, 119])))
      (.seq (.fldA .add 197 (.var 0) (.cI 1))
      (.seq (.set (.nm 2) (.tup (.cons (.var 3) (.cons (.meth 183 188 (.var 0) .nil) (.cons (.tup (.cons (.var 2) .nil)) .nil)))))
      .nop))
section
variable {P : Prog} (H : ParP P) {T : List Tok} {p q : Nat} (hpq : q ≠ p)
include H
theorem post_loop {K d : Nat} : ∀ (ps : List (Bool × Nat)) (b : Tr) (M : Mem) (a u n : Nat) (x3 : Option D) (x : List Nat) (R : List (List Nat)), (∀ y ∈ ps, 1 ≤ y.2 ∧ y.2 ≤ 16) → M[p]? = some (ob T q a u) →
    (T.map (·.1)).drop a = ptk ps ++ x :: R → x ≠ [94] → x ≠ [58] → ps.length < n →
    ∃ x3', loopW (evE (P.cn (runF P (K + 3))) ppC) (exS (P.cn (runF P (K + 3))) ppB) n [some (.obj p), some (.int d), some b.p, x3] M = .nx [some (.obj p), some (.int d), some (appP b ps).p, x3'] (M.set p (ob T q (a + (ptk ps).length) u))
  | [], b, M, a, u, n, x3, x, R, _, hM, ht, h1, h2, hn => by
    obtain ⟨m, rfl⟩ : ∃ m, n = m + 1 := ⟨n - 1, by simp at hn; omega⟩
    obtain ⟨pl, t1, _⟩ := tk_at (x := x) (R := R) ht
    have b1 : (x == [94]) = false := by simpa using h1
    have b2 : (x == [58]) = false := by simpa using h2
    refine ⟨x3, ?_⟩
    have e := xe_peek H (k := K + 2) (C := P.cn (runF P (K + 3))) (r := [some (.obj p), some (.int d), some b.p, x3]) rfl rfl hM t1
    have ec : evE (P.cn (runF P (K + 3))) ppC [some (.obj p), some (.int d), some b.p, x3] M = .ok (.bl false) M := xe_orF (M1 := M) (xe_cmp (k := false) e rfl (by rw [cop_eqS, b1])) (xe_cmp (k := false) e rfl (by rw [cop_eqS, b2]))
    rw [w_end ec]
    show Oc.nx _ M = Oc.nx _ (M.set p (ob T q a u))
    rw [set_same hM]
    rfl
  | (f, m) :: ps, b, M, a, u, n, x3, x, R, hp, hM, ht, h1, h2, hn => by
    obtain ⟨j, rfl⟩ : ∃ j, n = j + 1 := ⟨n - 1, by simp at hn; omega⟩
    simp only [List.length_cons] at hn
    obtain ⟨m1, m2⟩ := hp (f, m) List.mem_cons_self
    obtain ⟨pl, t1, ht1⟩ := tk_at (x := [if f then 94 else 58]) (R := numT m :: ptk ps ++ x :: R) ht
    obtain ⟨pl2, t2, ht2⟩ := tk_at (x := numT m) (R := ptk ps ++ x :: R) ht1
    have lp := lt_of_get hM
    have p1 : (M.set p (ob T q (a + 1) u))[p]? = some (ob T q (a + 1) u) := get_set lp
    have e : ∀ r : Env, r[0]? = some (some (.obj p)) → evE (P.cn (runF P (K + 3))) (.meth 183 184 (.var 0) .nil) r M = .ok (.str [if f then 94 else 58]) M := fun r hr => xe_peek H (k := K + 2) rfl hr hM t1
    have cn := count_run_ H (T := T) (q := q) m1 m2 p1 t2 K
    rw [List.set_set] at cn
    have p2 : (M.set p (ob T q (a + 1 + 1) u))[p]? = some (ob T q (a + 1 + 1) u) := get_set lp
    have ec : evE (P.cn (runF P (K + 3))) ppC [some (.obj p), some (.int d), some b.p, x3] M = .ok (.bl true) M := by
      cases f with
      | true => exact xe_orT (xe_cmp (k := true) (e _ rfl) rfl rfl)
      | false => exact xe_orF (xe_cmp (k := false) (e _ rfl) rfl rfl) (xe_cmp (k := true) (e _ rfl) rfl rfl)
    have ek : evE (P.cn (runF P (K + 3))) (.ite (.cmp .eq (.meth 183 184 (.var 0) .nil) (.cS [94])) (.cS [102, 97, 115, 116]) (.cS [115, 108, 111, 119])) [some (.obj p), some (.int d), some b.p, x3] M = .ok (.str (if f then [102, 97, 115, 116] else [115, 108, 111, 119])) M := by
      cases f with
      | true => exact xe_iteT (xe_cmp (k := true) (e _ rfl) rfl rfl) rfl
      | false => exact xe_iteF (xe_cmp (k := false) (e _ rfl) rfl rfl) rfl
    have eb : exS (P.cn (runF P (K + 3))) ppB [some (.obj p), some (.int d), some b.p, x3] M = .nx [some (.obj p), some (.int d), some (appP b [(f, m)]).p, some (.str (if f then [102, 97, 115, 116] else [115, 108, 111, 119]))] (M.set p (ob T q (a + 1 + 1) u)) := by
      unfold ppB
      rw [xs_set ek]
      rw [xs_fldA (xe_var rfl) hM rfl H.a197 rfl rfl]
      show exS _ _ [some (.obj p), some (.int d), some b.p, some (.str (if f then [102, 97, 115, 116] else [115, 108, 111, 119]))] (M.set p (ob T q (a + 1) u)) = _
      rw [xs_set (xe_tup3 (xe_var rfl) (xe_meth H.m15 (xe_var rfl) p1 rfl xa_nil cn) (xe_tup1 (xe_var rfl)))]
      cases f <;> rfl
    obtain ⟨x3', e'⟩ := post_loop ps (appP b [(f, m)]) (M.set p (ob T q (a + 1 + 1) u)) (a + 1 + 1) u j (some (.str (if f then [102, 97, 115, 116] else [115, 108, 111, 119]))) x R (fun y hy => hp y (List.mem_cons_of_mem _ hy)) p2 ht2 h1 h2 (by omega)
    refine ⟨x3', ?_⟩
    rw [w_step ec eb, e']
    rw [← appP_app, List.set_set]
    show Oc.nx _ (M.set p (ob T q (a + 1 + 1 + (ptk ps).length) u)) = Oc.nx _ (M.set p (ob T q (a + ((ptk ps).length + 1 + 1)) u))
    rw [show a + 1 + 1 + (ptk ps).length = a + ((ptk ps).length + 1 + 1) by omega]
    rfl
theorem pat_of_unit {K d : Nat} {b : Tr} {ps : List (Bool × Nat)} (hb : UnitS P T p q (K + 3) b d) (hps : ∀ y ∈ ps, 1 ≤ y.2 ∧ y.2 ≤ 16) (hl : ps.length < 1000000) : ∀ {t : Tr}, t = appP b ps → t.tk = b.tk ++ ptk ps → t.un = b.un → PatS P T p q (K + 4) t d := by
  intro t h1 h2 h3 M a u x R hM hq ht x1 x2 hu
  rw [h2, List.append_assoc] at ht
  rw [h3] at hu
  obtain ⟨M1, e, k1, k2⟩ := hb M a u (ptk ps ++ x :: R) hM hq ht (by simp) hu
  obtain ⟨x3', e'⟩ := post_loop H (K := K) (d := d) ps b M1 (a + b.tk.length) (u + b.un) 1000000 none x R hps k1 (tk_drop ht) x1 x2 hl
  refine ⟨M1.set p (ob T q (a + b.tk.length + (ptk ps).length) (u + b.un)), ?_, ?_, k2.set⟩
  · rw [run_eq H.pattern rfl]
    show (exS _ Bd.b16 [some (.obj p), some (.int d), none, none] M).res = _
    unfold Bd.b16
    rw [xs_set (xe_meth H.m17 (xe_var rfl) hM rfl (xa_1 (xe_var rfl)) e)]
    show (exS _ (.seq (.whl 1000000 ppC ppB) _) [some (.obj p), some (.int d), some b.p, none] M1).res = _
    rw [xs_whl e', xs_ret (xe_var rfl), h1]
    rfl
  · rw [get_set (lt_of_get k1), h2, h3, List.length_append]
    congr 2
    omega
end
section
variable {P : Prog} (H : ParP P) {T : List Tok} {p q : Nat} (hpq : q ≠ p)
include H hpq
theorem unit_all {n k : Nat} (ih : ∀ (t : Tr) (d : Nat), Tr.val n d t → PatS P T p q (k + 4) t d) : ∀ {t : Tr} {d : Nat}, Tr.isU t → Tr.val (n + 1) d t → UnitS P T p q (k + 6) t d := by
  intro t d hu hv
  have ne : ∀ {ts : List Tr}, ts ≠ [] → ∃ t0 r, ts = t0 :: r := fun {ts} h => by
    cases ts with
    | nil => exact absurd rfl h
    | cons t r => exact ⟨t, r, rfl⟩
  have hc : ∀ {ts : List Tr}, (∀ t ∈ ts, Tr.val n (d + 1) t) → ∀ t ∈ ts, PatS P T p q (k + 2 + 2) t (d + 1) ∧ ∃ n d, Tr.val n d t := fun h t ht => ⟨ih t (d + 1) (h t ht), n, d + 1, h t ht⟩
  cases t with
  | fast m t => exact hu.elim
  | slow m t => exact hu.elim
  | word w => exact unit_word H hv.2 hv.1 (k + 5)
  | rest => exact unit_rest H hv (k + 5)
  | row ts =>
    obtain ⟨t0, r, rfl⟩ := ne hv.2.1.1
    refine unit_grp H (x := [40]) (X := t0.tk ++ (Tr.tkR (sepOf false) r ++ [[41]])) (n := t0.un + Tr.unL r) (by decide) ?_ rfl hv.1 ?_
    · show [40] :: ([] ++ (t0.tk ++ Tr.tkR [] r) ++ [[41]]) = _
      simp [sepOf]
    · have := group_run H hpq (K := k + 2) (d := d) (x0 := [40]) (nm := [114, 111, 119]) (cl := [41]) (lay := false) (t0 := t0) (ts := r) rfl (fun _ => rfl) (by decide) (by have := hv.2.1.2; simp at this; omega) (hc hv.2.2)
      rw [show (Tr.row (t0 :: r)).p = .tup [.str [114, 111, 119], .non, .tup ((t0 :: r).map Tr.p)] from by rw [← pL_map]; rfl]
      exact this
  | turn ts =>
    obtain ⟨t0, r, rfl⟩ := ne hv.2.1.1
    refine unit_grp H (x := [123]) (X := t0.tk ++ (Tr.tkR (sepOf false) r ++ [[125]])) (n := t0.un + Tr.unL r) (by decide) ?_ rfl hv.1 ?_
    · show [123] :: ([] ++ (t0.tk ++ Tr.tkR [] r) ++ [[125]]) = _
      simp [sepOf]
    · have := group_run H hpq (K := k + 2) (d := d) (x0 := [123]) (nm := [116, 117, 114, 110, 115]) (cl := [125]) (lay := false) (t0 := t0) (ts := r) rfl (fun _ => rfl) (by decide) (by have := hv.2.1.2; simp at this; omega) (hc hv.2.2)
      rw [show (Tr.turn (t0 :: r)).p = .tup [.str [116, 117, 114, 110, 115], .non, .tup ((t0 :: r).map Tr.p)] from by rw [← pL_map]; rfl]
      exact this
  | lay ts =>
    obtain ⟨t0, r, rfl⟩ := ne hv.2.1.1
    refine unit_grp H (x := [91]) (X := t0.tk ++ (Tr.tkR (sepOf true) r ++ [[93]])) (n := t0.un + Tr.unL r) (by decide) ?_ rfl hv.1 ?_
    · show [91] :: ((t0.tk ++ Tr.tkR [[43]] r) ++ [[93]]) = _
      simp [sepOf]
    · have := group_run H hpq (K := k + 2) (d := d) (x0 := [91]) (nm := [108, 97, 121, 101, 114, 115]) (cl := [93]) (lay := true) (t0 := t0) (ts := r) rfl (fun _ => rfl) (by decide) (by have := hv.2.1.2; simp at this; omega) (hc hv.2.2)
      rw [show (Tr.lay (t0 :: r)).p = .tup [.str [108, 97, 121, 101, 114, 115], .non, .tup ((t0 :: r).map Tr.p)] from by rw [← pL_map]; rfl]
      exact this
  | shift i j t => exact unit_kw H (x := [108, 97, 116, 101]) (by decide) rfl rfl hv.1 (late_run H hpq (K := k + 2) hv.2.1.1 hv.2.1.2 (ih t (d + 1) hv.2.2))
  | rev t => exact unit_kw H (x := [109, 105, 114, 114, 111, 114]) (by decide) rfl rfl hv.1 (rev_run H hpq (K := k + 2) (ih t (d + 1) hv.2))
  | every i t v => exact unit_kw H (x := [101, 97, 99, 104]) (by decide) rfl rfl hv.1 (each_run H hpq (K := k + 1) hv.2.1.1 hv.2.1.2 (ih t (d + 1) hv.2.2.1) (ih v (d + 1) hv.2.2.2))
theorem pat_all : ∀ (n : Nat), n < 1000000 → ∀ (k : Nat) (t : Tr) (d : Nat), Tr.val n d t → PatS P T p q (k + 3 * n + 4) t d := by
  intro n
  induction n using Nat.strongRecOn with
  | _ n ih =>
    intro hn k t d hv
    obtain ⟨m, b, ps, h1, h2, h3, h4, h5, h6, h7⟩ := unit_post hv
    refine pat_of_unit H (K := k + 3 * n) (b := b) (ps := ps) ?_ h7 (by omega) h4 h5 h6
    cases m with
    | zero =>
      cases b <;> first | exact h3.elim | exact unit_word H h3.2 h3.1 _ | exact unit_rest H h3 _
    | succ m =>
      have := unit_all H hpq (n := m) (k := (k + 3 * (n - (m + 1))) + 3 * m) (fun t d hv => ih m (by omega) (by omega) (k + 3 * (n - (m + 1))) t d hv) h2 h3
      rw [show k + 3 * n + 3 = (k + 3 * (n - (m + 1))) + 3 * m + 6 by omega]
      exact this
end
end Cy
end

section
set_option linter.all false
set_option maxRecDepth 100000
set_option maxHeartbeats 4000000
set_option exponentiation.threshold 3000
/-! Plain: load, format_pattern, measure on a text whose tokens are a valid tree's. -/
namespace Cy
/-- bound_events -/
theorem bev_run {P : Prog} (h : P.fn 20 = some Bd.f20) (g : P.glob 20 = true) : ∀ (n k : Nat) (t : Tr) (M : Mem), Tr.ok n t → t.weight < 2 ^ 1000 → runF P (k + n + 1) 20 [t.p] M = .ok (.int t.weight) M := by
  intro n
  induction n with
  | zero =>
    intro k t M ok hw
    rw [run_eq h rfl]
    cases t <;> first | rfl | exact ok.elim
  | succ n ih =>
    intro k t M ok hw
    rw [run_eq h rfl]
    have C20 : ∀ t M, Tr.ok n t → t.weight < 2 ^ 1000 → pcall (P.cn (runF P (k + (n + 1)))) 20 [t.p] M = .ok (.int t.weight) M := fun t M ok hw => pcall_run (ih k t [] ok hw) rfl
    have g20 : (P.cn (runF P (k + (n + 1)))).has 20 = true := g
    generalize P.cn (runF P (k + (n + 1))) = C at C20 g20
    show (exS C Bd.b20 [some t.p, none, none, none, none, none] M).res = _
    have W : ∀ (p q : D) (ts : List Tr), ts.length ≤ 1000000 → (∀ t ∈ ts, Tr.ok n t ∧ t.weight < 2 ^ 1000) →
        evE C (.comp false (.nm 5) (.src (.var 4)) (.cB true) (.pcall 20 (.cons (.var 5) .nil))) [some (.tup [p, q, .tup (Tr.pL ts)]), none, some p, some q, some (.tup (Tr.pL ts)), none] M = .ok (.lst (ts.map fun t => .int t.weight)) M := fun p q ts hl hs => by
      refine comp_pcall (p := Tr.p) (src := .live (.tup (Tr.pL ts))) (by simp) g20 (fun t ht => ⟨C20 t M (hs t ht).1 (hs t ht).2, ok_pureP (hs t ht).1⟩) ?_ ?_ (by unfold top; omega)
      · rfl
      · rw [pL_map]; rfl
    have S : ∀ (p : List Nat) (q : D) (ts : List Tr), (∀ M, cop .inn (.str p) (.tup [.str [119, 111, 114, 100], .str [114, 101, 115, 116]]) M = some false) → (∀ M, cop .inn (.str p) (.tup [.str [114, 111, 119], .str [108, 97, 121, 101, 114, 115]]) M = some true) →
        ts.length ≤ 1000000 → (∀ t ∈ ts, Tr.ok n t ∧ t.weight < 2 ^ 1000) →
        (exS C Bd.b20 [some (.tup [.str p, q, .tup (Tr.pL ts)]), none, none, none, none, none] M).res = .ok (.int (Tr.weightL ts).sum) M := fun p q ts i1 i2 hl hs => by
      unfold Bd.b20
      rw [tree_head (u := []) (W (.str p) q ts hl hs)]
      rw [xs_iff (xe_cmp (k := false) (xe_var rfl) rfl (i1 M)), xs_ift (x := .int (Tr.weightL ts).sum) (M1 := M) (xe_cmp (k := true) (xe_var rfl) rfl (i2 M)) (by rw [q_bi, xa_1 (xe_var rfl)]; dsimp only; rw [bi_sum_, weightL_map])]
      rfl
    have X : ∀ (p : List Nat) (q : D) (ts : List Tr), (∀ M, cop .inn (.str p) (.tup [.str [119, 111, 114, 100], .str [114, 101, 115, 116]]) M = some false) → (∀ M, cop .inn (.str p) (.tup [.str [114, 111, 119], .str [108, 97, 121, 101, 114, 115]]) M = some false) → (∀ M, cop .eq (.str p) (.str [102, 97, 115, 116]) M = some false) →
        ts ≠ [] → ts.length ≤ 1000000 → (∀ t ∈ ts, Tr.ok n t ∧ t.weight < 2 ^ 1000) →
        (exS C Bd.b20 [some (.tup [.str p, q, .tup (Tr.pL ts)]), none, none, none, none, none] M).res = .ok (.int ((maxL (Tr.weightL ts)).getD 0)) M := fun p q ts i1 i2 i3 ne hl hs => by
      obtain ⟨m, e, _⟩ := maxL_some (xs := ts.map Tr.weight) (by simpa using ne)
      unfold Bd.b20
      rw [tree_head (u := []) (W (.str p) q ts hl hs)]
      rw [weightL_map, e]
      rw [xs_iff (xe_cmp (k := false) (xe_var rfl) rfl (i1 M)), xs_iff (xe_cmp (k := false) (xe_var rfl) rfl (i2 M)), xs_iff (xe_cmp (k := false) (xe_var rfl) rfl (i3 M)), xs_ret (x := .int m) (M1 := M) (by rw [q_bi, xa_1 (xe_var rfl)]; exact bi_max_ e)]
      rfl
    have M1 : ∀ {ts : List Tr}, (∀ t ∈ ts, Tr.ok n t) → (Tr.weightL ts).sum < 2 ^ 1000 → ∀ t ∈ ts, Tr.ok n t ∧ t.weight < 2 ^ 1000 := fun {ts} h1 h2 t ht => ⟨h1 t ht, by
      rw [weightL_map] at h2
      have := (sum_mem (xs := ts.map Tr.weight) fun x hx => by
        obtain ⟨t, ht, e⟩ := List.mem_map.mp hx
        exact e ▸ weight_pos (h1 t ht)).2 t.weight (List.mem_map_of_mem ht)
      omega⟩
    have M2 : ∀ {ts : List Tr}, (∀ t ∈ ts, Tr.ok n t) → (maxL (Tr.weightL ts)).getD 0 < 2 ^ 1000 → ∀ t ∈ ts, Tr.ok n t ∧ t.weight < 2 ^ 1000 := fun {ts} h1 h2 t ht => ⟨h1 t ht, by
      rw [weightL_map] at h2
      obtain ⟨m, e, _, hx⟩ := maxL_some (xs := ts.map Tr.weight) (by intro q; rw [List.map_eq_nil_iff] at q; subst q; simp at ht)
      rw [e] at h2
      have := hx t.weight (List.mem_map_of_mem ht)
      have h2 : m < 2 ^ 1000 := h2
      omega⟩
    cases t with
    | word w => rfl
    | rest => rfl
    | row ts => exact S _ _ ts (fun _ => rfl) (fun _ => rfl) ok.2.1 (M1 ok.2.2 hw)
    | lay ts => exact S _ _ ts (fun _ => rfl) (fun _ => rfl) ok.2.1 (M1 ok.2.2 hw)
    | turn ts => exact X _ _ ts (fun _ => rfl) (fun _ => rfl) (fun _ => rfl) ok.1 ok.2.1 (M2 ok.2.2 hw)
    | fast m t =>
      have p1 := weight_pos ok.2
      have p2 : (1 : Int) ≤ m := by have := ok.1; omega
      have hw : t.weight * m < 2 ^ 1000 := hw
      have le1 : t.weight * 1 ≤ t.weight * (m : Int) := Int.mul_le_mul_of_nonneg_left p2 (by omega)
      have le2 : 1 * (m : Int) ≤ t.weight * (m : Int) := Int.mul_le_mul_of_nonneg_right p1 (by omega)
      have w := W (.str [102, 97, 115, 116]) (.int m) [t] (by simp) (mem1 ⟨ok.2, by omega⟩)
      unfold Bd.b20
      show (exS C (.seq (.set (.tp [2, 3, 4]) (.var 0)) _) [some (.tup [.str [102, 97, 115, 116], .int m, .tup (Tr.pL [t])]), none, none, none, none, none] M).res = .ok (.int (t.weight * m)) M
      rw [tree_head (u := []) w]
      rw [xs_iff rfl, xs_iff rfl, xs_ift rfl (xe_bin (M1 := M) (M2 := M) (xe_var rfl) (xe_idx (x := .lst [.int t.weight]) (z := .int t.weight) (xe_var rfl) rfl rfl) (bop_mul (wide_small (i := (m : Int)) (by omega) (by omega)) (wide_small (i := t.weight) (by omega) (by omega)))), Int.mul_comm]
      rfl
    | slow m t => exact X _ _ [t] (fun _ => rfl) (fun _ => rfl) (fun _ => rfl) (by simp) (by simp) (mem1 ⟨ok.2, hw⟩)
    | shift a b t => exact X _ _ [t] (fun _ => rfl) (fun _ => rfl) (fun _ => rfl) (by simp) (by simp) (mem1 ⟨ok.2, hw⟩)
    | rev t => exact X _ _ [t] (fun _ => rfl) (fun _ => rfl) (fun _ => rfl) (by simp) (by simp) (mem1 ⟨ok, hw⟩)
    | every m t u => exact X _ _ [t, u] (fun _ => rfl) (fun _ => rfl) (fun _ => rfl) (by simp) (by simp) (M2 (ts := [t, u]) (mem2 ok.2.1 ok.2.2) hw)
mutual
/-- shifts in lowest terms -/
def Tr.red : Tr → Tr
  | .word w => .word w
  | .rest => .rest
  | .row ts => .row (Tr.redL ts)
  | .lay ts => .lay (Tr.redL ts)
  | .turn ts => .turn (Tr.redL ts)
  | .fast n t => .fast n t.red
  | .slow n t => .slow n t.red
  | .shift a b t => .shift (a / Nat.gcd a b) (b / Nat.gcd a b) t.red
  | .rev t => .rev t.red
  | .every n t u => .every n t.red u.red
def Tr.redL : List Tr → List Tr
  | [] => []
  | t :: ts => t.red :: Tr.redL ts
end
theorem redL_map : ∀ ts : List Tr, Tr.redL ts = ts.map Tr.red
  | [] => rfl
  | t :: ts => by rw [Tr.redL, redL_map ts]; rfl
theorem red_wf : ∀ {n : Nat} {t : Tr}, Tr.wf n t → t.red = t := by
  intro n
  induction n with
  | zero => intro t h; cases t <;> first | rfl | exact h.elim
  | succ n ih =>
    intro t h
    have L : ∀ {ts : List Tr}, Tr.wfL n ts → Tr.redL ts = ts := fun {ts} => by
      induction ts with
      | nil => intro _; rfl
      | cons t ts ih2 => intro h; simp only [Tr.redL, ih h.1, ih2 h.2]
    cases t with
    | word w => rfl
    | rest => rfl
    | row ts => simp only [Tr.red, L h.2.2]
    | lay ts => simp only [Tr.red, L h.2.2]
    | turn ts => simp only [Tr.red, L h.2.2]
    | fast m t => simp only [Tr.red, ih h.2.2]
    | slow m t => simp only [Tr.red, ih h.2.2]
    | shift a b t =>
      have g : Nat.gcd a b = 1 := h.2.2.1
      simp only [Tr.red, ih h.2.2.2, g, Nat.div_one]
    | rev t => simp only [Tr.red, ih (t := t) h]
    | every m t u => simp only [Tr.red, ih h.2.2.1, ih h.2.2.2]
theorem red_ok : ∀ {n : Nat} {t : Tr}, Tr.ok n t → Tr.ok n t.red := by
  intro n
  induction n with
  | zero => intro t h; cases t <;> first | trivial | exact h.elim
  | succ n ih =>
    intro t h
    have L : ∀ {ts : List Tr}, (∀ t ∈ ts, Tr.ok n t) → ∀ t ∈ Tr.redL ts, Tr.ok n t := fun {ts} h t ht => by
      rw [redL_map] at ht
      obtain ⟨s, hs, e⟩ := List.mem_map.mp ht
      exact e ▸ ih (h s hs)
    have N : ∀ {ts : List Tr}, ts ≠ [] → Tr.redL ts ≠ [] := fun {ts} h e => by rw [redL_map, List.map_eq_nil_iff] at e; exact h e
    have S : ∀ {ts : List Tr}, (Tr.redL ts).length = ts.length := fun {ts} => by rw [redL_map, List.length_map]
    cases t with
    | word w => trivial
    | rest => trivial
    | row ts => exact ⟨N h.1, by rw [S]; exact h.2.1, L h.2.2⟩
    | lay ts => exact ⟨N h.1, by rw [S]; exact h.2.1, L h.2.2⟩
    | turn ts => exact ⟨N h.1, by rw [S]; exact h.2.1, L h.2.2⟩
    | fast m t => exact ⟨h.1, ih h.2⟩
    | slow m t => exact ⟨h.1, ih h.2⟩
    | shift a b t =>
      refine ⟨⟨Nat.div_lt_div_of_lt_of_dvd (Nat.gcd_dvd_right a b) h.1.1, Nat.le_trans (Nat.div_le_self _ _) h.1.2⟩, ih h.2⟩
    | rev t => exact ih (t := t) h
    | every m t u => exact ⟨h.1, ih h.2.1, ih h.2.2⟩
theorem red_run {P : Prog} (h : P.fn 21 = some Bd.f21) (g : P.glob 21 = true) (h6 : P.fn 6 = some Bd.f6) (g6 : P.glob 6 = true) (h7 : P.fn 7 = some Bd.f7) (g7 : P.glob 7 = true) :
    ∀ (n k : Nat) (t : Tr) (M : Mem), Tr.ok n t → runF P (k + n + 3) 21 [t.p] M = .ok t.red.p M := by
  intro n
  induction n with
  | zero =>
    intro k t M ok
    rw [run_eq h rfl]
    cases t <;> first | rfl | exact ok.elim
  | succ n ih =>
    intro k t M ok
    rw [run_eq h rfl]
    have C21 : ∀ t M, Tr.ok n t → pcall (P.cn (runF P (k + (n + 1) + 2))) 21 [t.p] M = .ok t.red.p M := fun t M ok => pcall_run (ih k t [] ok) (ok_pureP (red_ok ok))
    have C7 : ∀ (a b : Nat) M, 0 < b → b ≤ 1000 → pcall (P.cn (runF P (k + (n + 1) + 2))) 7 [.int a, .int b] M = .ok (.tup [.int (a / Nat.gcd a b : Nat), .int (b / Nat.gcd a b : Nat)]) M := fun a b M h1 h2 => pcall_run (ratio_run (k := k + (n + 1)) (M := []) h6 g6 h7 h1 (Nat.lt_of_le_of_lt h2 (Nat.lt_of_lt_of_le (show 1000 < 2 ^ 10 by decide) (Nat.pow_le_pow_right (by decide) (by decide))))) rfl
    have g21 : (P.cn (runF P (k + (n + 1) + 2))).has 21 = true := g
    have g7 : (P.cn (runF P (k + (n + 1) + 2))).has 7 = true := g7
    generalize P.cn (runF P (k + (n + 1) + 2)) = C at C21 C7 g21 g7
    show (exS C Bd.b21 [some t.p, none, none, none, none, none] M).res = _
    have W : ∀ (p q : D) (ts : List Tr), ts.length ≤ 1000000 → (∀ t ∈ ts, Tr.ok n t) →
        evE C (.bi .tuple (.cons (.comp false (.nm 5) (.src (.var 4)) (.cB true) (.pcall 21 (.cons (.var 5) .nil))) .nil)) [some (.tup [p, q, .tup (Tr.pL ts)]), none, some p, some q, some (.tup (Tr.pL ts)), none] M = .ok (.tup (Tr.pL (Tr.redL ts))) M := fun p q ts hl hs => by
      have w := comp_pcall (C := C) (M := M) (f := 21) (v := 5) (it := .src (.var 4)) (r := [some (.tup [p, q, .tup (Tr.pL ts)]), none, some p, some q, some (.tup (Tr.pL ts)), none]) (p := Tr.p) (g := fun t => t.red.p) (ts := ts) (src := .live (.tup (Tr.pL ts))) (by simp) g21 (fun t ht => ⟨C21 t M (hs t ht), ok_pureP (hs t ht)⟩) rfl (by rw [pL_map]; rfl) (by unfold top; omega)
      rw [q_bi, xa_1 w, pL_map, redL_map, List.map_map]
      rfl
    have R : ∀ (p : List Nat) (q : D) (ts : List Tr), (∀ M, cop .eq (.str p) (.str [108, 97, 116, 101]) M = some false) → ts.length ≤ 1000000 → (∀ t ∈ ts, Tr.ok n t) →
        (exS C Bd.b21 [some (.tup [.str p, q, .tup (Tr.pL ts)]), none, none, none, none, none] M).res = .ok (.tup [.str p, q, .tup (Tr.pL (Tr.redL ts))]) M := fun p q ts i1 hl hs => by
      unfold Bd.b21
      rw [tree_head (u := []) (W (.str p) q ts hl hs)]
      rw [xs_ret (xe_tup3 (xe_var rfl) (xe_iteF (xe_cmp (k := false) (xe_var rfl) rfl (i1 M)) (xe_var rfl)) (xe_var rfl))]
      rfl
    cases t with
    | word w => rfl
    | rest => rfl
    | row ts => exact R _ _ ts (fun _ => rfl) ok.2.1 ok.2.2
    | lay ts => exact R _ _ ts (fun _ => rfl) ok.2.1 ok.2.2
    | turn ts => exact R _ _ ts (fun _ => rfl) ok.2.1 ok.2.2
    | fast m t => exact R _ _ [t] (fun _ => rfl) (by simp) (mem1 ok.2)
    | slow m t => exact R _ _ [t] (fun _ => rfl) (by simp) (mem1 ok.2)
    | shift a b t =>
      unfold Bd.b21
      show (exS C (.seq (.set (.tp [2, 3, 4]) (.var 0)) _) [some (.tup [.str [108, 97, 116, 101], .tup [.int a, .int b], .tup (Tr.pL [t])]), none, none, none, none, none] M).res = _
      rw [tree_head (u := []) (W _ _ [t] (by simp) (mem1 ok.2))]
      rw [xs_ret (xe_tup3 (xe_var rfl) (xe_iteT rfl (xe_pcall2 g7 (x := .int a) (y := .int b) rfl rfl rfl rfl (C7 a b M (by have := ok.1; omega) ok.1.2))) (xe_var rfl))]
      rfl
    | rev t => exact R _ _ [t] (fun _ => rfl) (by simp) (mem1 ok)
    | every m t u => exact R _ _ [t, u] (fun _ => rfl) (by simp) (mem2 ok.2.1 ok.2.2)
structure LoadP (P : Prog) : Prop extends ParP P where
  gcd : P.fn 6 = some Bd.f6
  g6 : P.glob 6 = true
  ratio : P.fn 7 = some Bd.f7
  g7 : P.glob 7 = true
  bev : P.fn 20 = some Bd.f20
  g20 : P.glob 20 = true
  redu : P.fn 21 = some Bd.f21
  g21 : P.glob 21 = true
  load : P.fn 22 = some Bd.f22
  g22 : P.glob 22 = true
  maxEvents : P.con 182 = some (.int 500)
theorem xs_fld {C : Cn} {r : Env} {M M1 : Mem} {o e : Ex} {s : St} {c f l : Nat} {fs : List (Nat × D)} {x : D} (h1 : evE C e r M = .ok x M1) (h2 : evE C o r M1 = .ok (.obj l) M1) (h3 : M1[l]? = some (.ins c fs)) (h4 : C.att c f = true) (h5 : Nat.blt fs.length 900 = true) :
    exS C (.seq (.fld f o e) s) r M = exS C s r (M1.set l (.ins c (putF f x fs))) := by
  rw [q_seq]
  have : exS C (.fld f o e) r M = .nx r (M1.set l (.ins c (putF f x fs))) := by
    show (evE C e r M).st r (fun d M => (evE C o r M).st r fun x M => match x with
    | .obj l => match M[l]? with
      | some (.ins c fs) => if C.att c f && Nat.blt fs.length 900 then Oc.nx r (M.set l (.ins c (putF f d fs))) else .bad
      | _ => .bad
    | _ => .bad) = _
    rw [h1]
    simp only [st_ok]
    rw [h2]
    simp only [st_ok, h3, h4, h5, Bool.and_self, if_true]
  rw [this]
theorem pureT {T : List Tok} : D.pureL (T.map tokD) = true := by
  rw [pureL_iff]
  intro x hx
  obtain ⟨t, _, e⟩ := List.mem_map.mp hx
  subst e
  rfl
theorem init_run {P : Prog} (H : ParP P) {text : List Nat} {ts : List Tok} (hl : text.length < 1000000) (ht : tokz text.length text 0 = .ok ts) (k : Nat) :
    runF P (k + 3) 10 [.obj 0, .str text] [.ins 183 []] = .ok .non [ob (ts ++ [([], text.length)]) 1 0 0, .lst []] := by
  rw [run_eq H.init rfl]
  obtain ⟨M', e⟩ := tokenize_run H.toTokP hl ht k
  have e9 : ∀ M, pcall (P.cn (runF P (k + 2))) 9 [.str text] M = .ok (.lst ((ts ++ [([], text.length)]).map tokD)) M := fun M => pcall_run' e pureT
  have g9 : (P.cn (runF P (k + 2))).has 9 = true := H.g9
  have a1 : (P.cn (runF P (k + 2))).att 183 196 = true := H.a196
  have a2 : (P.cn (runF P (k + 2))).att 183 197 = true := H.a197
  have a3 : (P.cn (runF P (k + 2))).att 183 198 = true := H.a198
  have a4 : (P.cn (runF P (k + 2))).att 183 199 = true := H.a199
  generalize P.cn (runF P (k + 2)) = C at e9 g9 a1 a2 a3 a4
  show (exS C Bd.b10 [some (.obj 0), some (.str text)] [.ins 183 []]).res = _
  unfold Bd.b10
  rw [xs_fld (xe_pcall1 g9 (xe_var rfl) rfl (e9 _)) (xe_var rfl) rfl a1 rfl]
  rw [xs_fld (x := .int 0) (M1 := [.ins 183 [(196, .lst ((ts ++ [([], text.length)]).map tokD))]]) rfl (xe_var rfl) rfl a2 rfl]
  rw [xs_fld (x := .int 0) (M1 := [.ins 183 [(196, .lst ((ts ++ [([], text.length)]).map tokD)), (197, .int 0)]]) rfl (xe_var rfl) rfl a3 rfl]
  rw [xs_fld (x := .obj 1) (M1 := [.ins 183 [(196, .lst ((ts ++ [([], text.length)]).map tokD)), (197, .int 0), (198, .int 0)], .lst []]) rfl (xe_var rfl) rfl a4 rfl]
  rfl
/-- a text whose tokens are a valid tree's -/
def Reads (text : List Nat) (t : Tr) : Prop := text.length < 1000000 ∧ ∃ ts : List Tok, tokz text.length text 0 = .ok ts ∧ ts.map (·.1) = t.tk
theorem xe_mk {C : Cn} {r : Env} {M M1 M2 : Mem} {es : Ex} {c f : Nat} {xs : List D} (h : C.init c = some f) (h1 : evA C es r M = .ok xs M1) (h2 : C.call f (D.obj M1.length :: xs) (M1 ++ [MO.ins c []]) = .ok .non M2) : evE C (.mk c es) r M = .ok (.obj M1.length) M2 := by
  show (match C.init c with
    | some f => (evA C es r M).bind fun xs M => (C.call f (D.obj M.length :: xs) (M ++ [MO.ins c []])).bind fun d M' => if isNon d then Res.ok (D.obj M.length) M' else .bad
    | none => .bad) = _
  rw [h, h1]
  simp only [bind_ok, h2]
  rfl
theorem load_run {P : Prog} (H : LoadP P) {text : List Nat} {t : Tr} {n : Nat} (hn : n < 1000) (hr : Reads text t) (hv : Tr.val n 1 t) (hu : t.un ≤ 60) (hw : t.weight ≤ 500) (k : Nat) :
    ∃ M', runF P (k + 3 * n + 5) 22 [.str text] [] = .ok t.red.p M' := by
  obtain ⟨hl, ts, ht, htk⟩ := hr
  have ei := init_run H.toParP hl ht (k + 3 * n + 1)
  generalize hT : ts ++ [([], text.length)] = T at ei
  have hd : (T.map (·.1)).drop 0 = t.tk ++ [] :: [] := by
    rw [← hT, List.drop_zero, List.map_append, htk]
    rfl
  obtain ⟨M1, e, k1, k2⟩ := pat_all H.toParP (p := 0) (q := 1) (by decide) n (by omega) k t 1 hv [ob T 1 0 0, .lst []] 0 0 [] [] rfl rfl hd (by decide) (by decide) (by omega)
  obtain ⟨pl, t1, _⟩ := tk_at (T := T) (x := []) (R := []) (tk_drop hd)
  have f1 : M1[1]? = some (.lst []) := k2.get (x := .lst []) rfl (by decide)
  have ok := val_ok hv
  have e20 : ∀ M, pcall (P.cn (runF P (k + 3 * n + 4))) 20 [t.p] M = .ok (.int t.weight) M := fun M => by
    have := bev_run H.bev H.g20 n (k + 2 * n + 3) t [] ok (by omega)
    rw [show k + 2 * n + 3 + n + 1 = k + 3 * n + 4 by omega] at this
    exact pcall_run this rfl
  have e21 : ∀ M, pcall (P.cn (runF P (k + 3 * n + 4))) 21 [t.p] M = .ok t.red.p M := fun M => by
    have := red_run H.redu H.g21 H.gcd H.g6 H.ratio H.g7 n (k + 2 * n + 1) t [] ok
    rw [show k + 2 * n + 1 + n + 3 = k + 3 * n + 4 by omega] at this
    exact pcall_run this (ok_pureP (red_ok ok))
  have g20 : (P.cn (runF P (k + 3 * n + 4))).has 20 = true := H.g20
  have g21 : (P.cn (runF P (k + 3 * n + 4))).has 21 = true := H.g21
  have c5 : (P.cn (runF P (k + 3 * n + 4))).con 182 = some (.int 500) := H.maxEvents
  have hp := ok_pureP ok
  refine ⟨M1, ?_⟩
  rw [run_eq H.load rfl]
  show (exS _ Bd.b22 [some (.str text), none, none, none, none, none] []).res = _
  unfold Bd.b22
  rw [xs_set (xe_mk H.ini (xa_1 (xe_var rfl)) ei)]
  show (exS _ _ [some (.str text), some (.obj 0), none, none, none, none] [ob T 1 0 0, .lst []]).res = _
  rw [xs_set (xe_meth (l := 0) H.m16 (xe_var rfl) (show [ob T 1 0 0, MO.lst []][0]? = some (ob T 1 0 0) from rfl) rfl (xa_1 rfl) e)]
  show (exS _ _ [some (.str text), some (.obj 0), some t.p, none, none, none] M1).res = _
  have ep : evE (P.cn (runF P (k + 3 * n + 4))) (.meth 183 184 (.var 1) .nil) [some (.str text), some (.obj 0), some t.p, none, none, none] M1 = .ok (.str []) M1 := xe_meth H.m11 (xe_var rfl) k1 rfl xa_nil (peek_run H.toParP k1 t1 (k + 3 * n + 3))
  rw [xs_iff (xe_cmp (k := false) ep rfl rfl)]
  have ef : evE (P.cn (runF P (k + 3 * n + 4))) (.fld 199 (.var 1)) [some (.str text), some (.obj 0), some t.p, none, none, none] M1 = .ok (.obj 1) M1 := xe_fld (xe_var rfl) k1 rfl H.a199
  rw [xs_iff (xe_cmp (k := false) (M2 := M1) (y := .lst []) ef rfl (by
    show (if (D.dat 60 (view M1 (.obj 1)) && D.dat 60 (.lst [])) = true then some (!D.eqv (view M1 (.obj 1)) (.lst [])) else none) = _
    rw [view_obj f1]
    rfl))]
  rw [xs_iff (xe_cmp (k := false) (xe_pcall1 g20 (xe_var rfl) hp (e20 M1)) (xe_gl c5) (by rw [cop_gt, decide_eq_false (by omega)]))]
  rw [xs_ret (xe_pcall1 g21 (xe_var rfl) hp (e21 M1))]
  rfl
structure FmtP (P : Prog) : Prop extends LoadP P where
  fmt : P.fn 23 = some Bd.f23
  g23 : P.glob 23 = true
  brk : P.con 193 = some brackets
  fp : P.fn 24 = some Bd.f24
  g24 : P.glob 24 = true
/-- format_pattern -/
theorem fp_run {P : Prog} (H : FmtP P) {text : List Nat} {t : Tr} {n : Nat} (hn : n < 1000) (hr : Reads text t) (hv : Tr.val n 1 t) (hu : t.un ≤ 60) (hw : t.weight ≤ 500) (hl : t.red.text.length ≤ 2 ^ 20) (k : Nat) (M : Mem) :
    runF P (k + 3 * n + 6) 24 [.str text] M = .ok (.str t.red.text) M := by
  obtain ⟨M', e⟩ := load_run H.toLoadP hn hr hv hu hw k
  have ok := val_ok hv
  have hp := ok_pureP (red_ok ok)
  have e22 : ∀ M, pcall (P.cn (runF P (k + 3 * n + 5))) 22 [.str text] M = .ok t.red.p M := fun M => pcall_run' e hp
  have e23 : ∀ M, pcall (P.cn (runF P (k + 3 * n + 5))) 23 [t.red.p] M = .ok (.str t.red.text) M := fun M => by
    have := format_run H.fmt H.g23 H.brk n (k + 2 * n + 4) t.red [] (red_ok ok) hl
    rw [show k + 2 * n + 4 + n + 1 = k + 3 * n + 5 by omega] at this
    exact pcall_run this rfl
  have g22 : (P.cn (runF P (k + 3 * n + 5))).has 22 = true := H.g22
  have g23 : (P.cn (runF P (k + 3 * n + 5))).has 23 = true := H.g23
  rw [run_eq H.fp rfl]
  show (exS _ Bd.b24 [some (.str text)] M).res = _
  unfold Bd.b24
  rw [xs_ret (xe_pcall1 g23 (xe_pcall1 g22 (xe_var rfl) rfl (e22 M)) hp (e23 M))]
  rfl
/-- measure -/
theorem measure_run {P : Prog} (H : LoadP P) (h45 : P.fn 45 = some Bd.f45) (g45 : P.glob 45 = true) (h46 : P.fn 46 = some Bd.f46) {text : List Nat} {t : Tr} {n : Nat} (hn : n < 1000) (hr : Reads text t) (hv : Tr.val n 1 t) (hu : t.un ≤ 60) (hw : t.weight ≤ 500) (k : Nat) (M : Mem) :
    runF P (k + 3 * n + 6) 46 [.str text] M = .ok (.int t.red.units) M := by
  obtain ⟨M', e⟩ := load_run H hn hr hv hu hw k
  have ok := val_ok hv
  have hp := ok_pureP (red_ok ok)
  have e22 : ∀ M, pcall (P.cn (runF P (k + 3 * n + 5))) 22 [.str text] M = .ok t.red.p M := fun M => pcall_run' e hp
  have e45 : ∀ M, pcall (P.cn (runF P (k + 3 * n + 5))) 45 [t.red.p] M = .ok (.int t.red.units) M := fun M => by
    have := count_run h45 g45 n (k + 2 * n + 4) t.red [] (red_ok ok)
    rw [show k + 2 * n + 4 + n + 1 = k + 3 * n + 5 by omega] at this
    exact pcall_run this rfl
  have g22 : (P.cn (runF P (k + 3 * n + 5))).has 22 = true := H.g22
  have g45 : (P.cn (runF P (k + 3 * n + 5))).has 45 = true := g45
  rw [run_eq h46 rfl]
  show (exS _ Bd.b46 [some (.str text)] M).res = _
  unfold Bd.b46
  rw [xs_ret (xe_pcall1 g45 (xe_pcall1 g22 (xe_var rfl) rfl (e22 M)) hp (e45 M))]
  rfl
end Cy
end

section
set_option linter.all false
set_option maxRecDepth 100000
set_option maxHeartbeats 4000000
/-! Plain: texts and their tokens; looser texts. -/
namespace Cy
def isSym (w : List Nat) : Bool := match w with
  | [c] => symbols.contains c
  | _ => false
def isWrd (w : List Nat) : Bool := w.all (fun c => letters.contains c) && Nat.blt 0 w.length && Nat.ble w.length 8
def isNum (w : List Nat) : Bool := w.all (fun c => digits.contains c) && Nat.blt 0 w.length && Nat.ble w.length 3 && (match w with
  | c :: _ :: _ => !(c == 48)
  | _ => true)
def isTok (w : List Nat) : Bool := isSym w || isWrd w || isNum w
/-- what may follow a word, a number -/
def endOk : List Nat → Bool
  | [] => true
  | c :: _ => c == 32 || symbols.contains c
/-- a text with these tokens -/
def Rd : List (List Nat) → List Nat → Prop
  | [], s => ∀ c ∈ s, c = 32
  | w :: ws, s => ∃ b r, s = List.replicate b 32 ++ (w ++ r) ∧ isTok w = true ∧ (isSym w = true ∨ endOk r = true) ∧ Rd ws r
theorem rd_blank {ws : List (List Nat)} {s : List Nat} (h : Rd ws s) : Rd ws (32 :: s) := by
  cases ws with
  | nil =>
    intro c hc
    rcases List.mem_cons.mp hc with e | e
    · exact e
    · exact h c e
  | cons w ws =>
    obtain ⟨b, r, e, h1, h2, h3⟩ := h
    exact ⟨b + 1, r, by rw [e, List.replicate_succ]; rfl, h1, h2, h3⟩
theorem rd_blanks {ws : List (List Nat)} {s : List Nat} (h : Rd ws s) : ∀ m, Rd ws (List.replicate m 32 ++ s)
  | 0 => h
  | m + 1 => by
    rw [List.replicate_succ]
    exact rd_blank (rd_blanks h m)
theorem rd_tok {ws : List (List Nat)} {w s : List Nat} (hw : isTok w = true) (he : isSym w = true ∨ endOk s = true) (h : Rd ws s) : Rd (w :: ws) (w ++ s) := ⟨0, s, rfl, hw, he, h⟩
theorem pre_all {z : List Nat} : ∀ {w r : List Nat}, (∀ c ∈ w, z.contains c = true) → (∀ c r', r = c :: r' → z.contains c = false) → pre z (w ++ r) = w.length
  | [], r, _, h => by
    cases r with
    | nil => rfl
    | cons c r => rw [List.nil_append, pre_cons, if_neg (by rw [h c r rfl]; decide)]; rfl
  | c :: w, r, h1, h2 => by
    rw [List.cons_append, pre_cons, if_pos (h1 c List.mem_cons_self), pre_all (fun c hc => h1 c (List.mem_cons_of_mem _ hc)) h2]
    rfl
theorem end_let {r : List Nat} (h : endOk r = true) : ∀ c r', r = c :: r' → letters.contains c = false ∧ digits.contains c = false := fun c r' e => by
  subst e
  have h : (c == 32 || symbols.contains c) = true := h
  rw [Bool.or_eq_true] at h
  rcases h with h | h
  · rw [eq_of_beq h]; decide
  · exact (by decide : ∀ c ∈ symbols, letters.contains c = false ∧ digits.contains c = false) c (by simpa using h)
theorem let_no : ∀ c ∈ letters, symbols.contains c = false ∧ c ≠ 32 ∧ digits.contains c = false := by decide
theorem dig_no : ∀ c ∈ digits, symbols.contains c = false ∧ c ≠ 32 ∧ letters.contains c = false := by decide
theorem sym_no : ∀ c ∈ symbols, c ≠ 32 := by decide
theorem wrd_iff {w : List Nat} (h : isWrd w = true) : (∀ c ∈ w, letters.contains c = true) ∧ 0 < w.length ∧ w.length ≤ 8 := by
  unfold isWrd at h
  simp only [Bool.and_eq_true, List.all_eq_true] at h
  exact ⟨h.1.1, Nat.le_of_ble_eq_true h.1.2, Nat.le_of_ble_eq_true h.2⟩
theorem num_iff {w : List Nat} (h : isNum w = true) : (∀ c ∈ w, digits.contains c = true) ∧ 0 < w.length ∧ w.length ≤ 3 ∧ (∀ c r, w = c :: r → r ≠ [] → c ≠ 48) := by
  unfold isNum at h
  simp only [Bool.and_eq_true, List.all_eq_true] at h
  refine ⟨h.1.1.1, Nat.le_of_ble_eq_true h.1.1.2, Nat.le_of_ble_eq_true h.1.2, fun c r e hr => ?_⟩
  subst e
  cases r with
  | nil => exact absurd rfl hr
  | cons d r =>
    intro e
    subst e
    simp at h
theorem tlen_tok {w r : List Nat} (hw : isTok w = true) (he : isSym w = true ∨ endOk r = true) : tlen (w ++ r) = w.length := by
  unfold isTok at hw
  rw [Bool.or_eq_true, Bool.or_eq_true] at hw
  by_cases hs : isSym w = true
  · match w, hs with
    | [c], hs =>
      have hs : symbols.contains c = true := hs
      rw [List.cons_append, tlen_cons, if_pos hs]
      rfl
  · have he : endOk r = true := he.resolve_left hs
    have hn := end_let he
    rcases hw with (hw | hw) | hw
    · exact absurd hw hs
    · obtain ⟨h1, h2, h3⟩ := wrd_iff hw
      have hp := pre_all (z := letters) (r := r) h1 fun c r' e => (hn c r' e).1
      cases w with
      | nil => cases h2
      | cons c w =>
        have hc := h1 c List.mem_cons_self
        obtain ⟨n1, n2, n3⟩ := let_no c (by simpa using hc)
        rw [List.cons_append] at hp ⊢
        rw [tlen_cons, if_neg (by rw [n1]; decide), if_pos hc, if_pos hc, hp, if_neg (by omega), if_neg (fun q => ?_)]
        rw [q.2] at hc
        revert hc
        decide
    · obtain ⟨h1, h2, h3, h4⟩ := num_iff hw
      have hp := pre_all (z := digits) (r := r) h1 fun c r' e => (hn c r' e).2
      cases w with
      | nil => cases h2
      | cons c w =>
        have hc := h1 c List.mem_cons_self
        obtain ⟨n1, n2, n3⟩ := dig_no c (by simpa using hc)
        rw [List.cons_append] at hp ⊢
        have n3' : ¬ letters.contains c = true := by rw [n3]; decide
        rw [tlen_cons, if_neg (by rw [n1]; decide), if_neg n3', if_neg n3', hp, if_neg (by omega), if_neg (fun q => ?_)]
        refine h4 c w rfl (fun e => ?_) q.2
        subst e
        have := q.1
        simp at this
theorem tok_head {w : List Nat} (hw : isTok w = true) : ∃ c r, w = c :: r ∧ c ≠ 32 := by
  unfold isTok at hw
  rw [Bool.or_eq_true, Bool.or_eq_true] at hw
  rcases hw with (hw | hw) | hw
  · match w, hw with
    | [c], hw => exact ⟨c, [], rfl, sym_no c (by have hw : symbols.contains c = true := hw; simpa using hw)⟩
  · obtain ⟨h1, h2, _⟩ := wrd_iff hw
    cases w with
    | nil => cases h2
    | cons c w => exact ⟨c, w, rfl, (let_no c (by simpa using h1 c List.mem_cons_self)).2.1⟩
  · obtain ⟨h1, h2, _⟩ := num_iff hw
    cases w with
    | nil => cases h2
    | cons c w => exact ⟨c, w, rfl, (dig_no c (by simpa using h1 c List.mem_cons_self)).2.1⟩
theorem tokz_blanks : ∀ (b f pl : Nat) (s : List Nat), b + s.length ≤ f → tokz f (List.replicate b 32 ++ s) pl = tokz (f - b) s (pl + b)
  | 0, f, pl, s, _ => rfl
  | b + 1, f, pl, s, h => by
    obtain ⟨g, rfl⟩ : ∃ g, f = g + 1 := ⟨f - 1, by omega⟩
    rw [List.replicate_succ, List.cons_append]
    conv => lhs; unfold tokz
    rw [if_pos rfl, tokz_blanks b g (pl + 1) s (by omega)]
    rw [show g + 1 - (b + 1) = g - b by omega, show pl + 1 + b = pl + (b + 1) by omega]
theorem tokz_rd : ∀ {ws : List (List Nat)} {s : List Nat} (f pl : Nat), Rd ws s → s.length ≤ f → ∃ ts, tokz f s pl = .ok ts ∧ ts.map (·.1) = ws
  | [], s, f, pl, h, hl => by
    have e : s = List.replicate s.length 32 := List.eq_replicate_iff.mpr ⟨rfl, h⟩
    refine ⟨[], ?_, rfl⟩
    rw [e, ← List.append_nil (List.replicate _ _), tokz_blanks _ _ _ _ (by simpa using hl)]
    cases f - s.length <;> rfl
  | w :: ws, s, f, pl, h, hl => by
    obtain ⟨b, r, e, h1, h2, h3⟩ := h
    subst e
    rw [List.length_append, List.length_replicate, List.length_append] at hl
    rw [tokz_blanks _ _ _ _ (by rw [List.length_append]; omega)]
    obtain ⟨c, w', ew, hc⟩ := tok_head h1
    have tl := tlen_tok h1 h2
    have lw : 0 < w.length := by rw [ew]; simp
    obtain ⟨g, eg⟩ : ∃ g, f - b = g + 1 := ⟨f - b - 1, by omega⟩
    rw [eg]
    obtain ⟨ts, e1, e2⟩ := tokz_rd (ws := ws) (s := r) g (pl + b + w.length) h3 (by omega)
    refine ⟨(w, pl + b) :: ts, ?_, by rw [List.map_cons, e2]⟩
    have key : w ++ r = c :: (w' ++ r) := by rw [ew]; rfl
    conv => lhs; rw [key]; unfold tokz
    rw [if_neg hc, ← key, tl, if_neg (by omega), List.drop_left, List.take_left, e1]
theorem reads_rd {s : List Nat} {t : Tr} (h : Rd t.tk s) (hl : s.length < 1000000) : Reads s t := by
  obtain ⟨ts, e1, e2⟩ := tokz_rd s.length 0 h (Nat.le_refl _)
  exact ⟨hl, ts, e1, e2⟩
/-! ### looser texts -/
def symO : Option Nat → Bool
  | some c => symbols.contains c
  | none => false
def Lo : Option Nat → List Nat → List Nat → Prop
  | _, [], s => s = []
  | p, c :: r, s => ∃ m s', s = (if c = 32 then [] else [c]) ++ (List.replicate m 32 ++ s') ∧ (c = 32 → 1 ≤ m ∨ symO p = true ∨ symO r.head? = true) ∧ (c ≠ 32 → m = 0 ∨ symbols.contains c = true) ∧ Lo (some c) r s'
theorem lo_blanks : ∀ {b : Nat} {p : Option Nat} {s s' : List Nat}, Lo p (List.replicate b 32 ++ s) s' → ∃ m p' s'', s' = List.replicate m 32 ++ s'' ∧ Lo p' s s''
  | 0, p, s, s', h => ⟨0, p, s', rfl, h⟩
  | b + 1, p, s, s', h => by
    rw [List.replicate_succ, List.cons_append] at h
    obtain ⟨m, s1, e, h1, h2, h3⟩ := h
    rw [if_pos rfl, List.nil_append] at e
    obtain ⟨m2, p', s2, e2, h4⟩ := lo_blanks h3
    refine ⟨m + m2, p', s2, ?_, h4⟩
    rw [e, e2, ← List.append_assoc, List.replicate_append_replicate]
/-- signs of words, numbers stay together -/
theorem lo_word : ∀ {w r s' : List Nat} {p : Option Nat}, (∀ c ∈ w, c ≠ 32 ∧ symbols.contains c = false) → w ≠ [] → Lo p (w ++ r) s' → ∃ q s'', s' = w ++ s'' ∧ symO q = false ∧ Lo q r s''
  | [], _, _, _, _, h, _ => absurd rfl h
  | [c], r, s', p, h, _, hl => by
    obtain ⟨h1, h2⟩ := h c (by simp)
    obtain ⟨m, s1, e, _, h3, h4⟩ := hl
    rcases h3 h1 with z | z
    · subst z
      rw [if_neg h1] at e
      exact ⟨some c, s1, e, h2, h4⟩
    · rw [z] at h2; cases h2
  | c :: d :: w, r, s', p, h, _, hl => by
    obtain ⟨h1, h2⟩ := h c (by simp)
    obtain ⟨m, s1, e, _, h3, h4⟩ := hl
    rcases h3 h1 with z | z
    · subst z
      rw [if_neg h1] at e
      obtain ⟨q, s2, e2, h5, h6⟩ := lo_word (w := d :: w) (fun c hc => h c (List.mem_cons_of_mem _ hc)) (by simp) h4
      exact ⟨q, s2, by rw [e, e2]; rfl, h5, h6⟩
    · rw [z] at h2; cases h2
theorem lo_end {q : Option Nat} {r s : List Nat} (hq : symO q = false) (hr : endOk r = true) (h : Lo q r s) : endOk s = true := by
  cases r with
  | nil => rw [show s = [] from h]; rfl
  | cons c r =>
    obtain ⟨m, s', e, h1, h2, h3⟩ := h
    have hr : (c == 32 || symbols.contains c) = true := hr
    by_cases hc : c = 32
    · subst hc
      rw [if_pos rfl, List.nil_append] at e
      cases m with
      | succ m => rw [e, List.replicate_succ]; rfl
      | zero =>
        rcases h1 rfl with z | z | z
        · omega
        · rw [hq] at z; cases z
        · cases r with
          | nil => cases z
          | cons d r =>
            have z : symbols.contains d = true := z
            obtain ⟨m2, s2, e2, _⟩ := h3
            rw [if_neg (sym_no d (by simpa using z))] at e2
            rw [e, e2]
            show (d == 32 || symbols.contains d) = true
            rw [z, Bool.or_true]
    · rw [if_neg hc] at e
      rw [e]
      exact hr
theorem rd_lo : ∀ {ws : List (List Nat)} {s s' : List Nat} {p : Option Nat}, Rd ws s → Lo p s s' → Rd ws s'
  | [], s, s', p, h, hl => by
    have e : s = List.replicate s.length 32 ++ [] := by rw [List.append_nil]; exact List.eq_replicate_iff.mpr ⟨rfl, h⟩
    rw [e] at hl
    obtain ⟨m, p', s2, e2, h2⟩ := lo_blanks hl
    rw [show s2 = [] from h2, List.append_nil] at e2
    intro c hc
    rw [e2] at hc
    exact List.eq_of_mem_replicate hc
  | w :: ws, s, s', p, h, hl => by
    obtain ⟨b, r, e, h1, h2, h3⟩ := h
    rw [e] at hl
    obtain ⟨m, p', s2, e2, h4⟩ := lo_blanks hl
    by_cases hs : isSym w = true
    · match w, hs with
      | [c], hs =>
        have hs' : symbols.contains c = true := hs
        have hc := sym_no c (by simpa using hs')
        obtain ⟨m2, s3, e3, _, _, h5⟩ := h4
        rw [if_neg hc] at e3
        exact ⟨m, List.replicate m2 32 ++ s3, by rw [e2, e3], h1, .inl hs, rd_blanks (rd_lo h3 h5) m2⟩
    · have he : endOk r = true := h2.resolve_left hs
      have hw : ∀ c ∈ w, c ≠ 32 ∧ symbols.contains c = false := by
        unfold isTok at h1
        rw [Bool.or_eq_true, Bool.or_eq_true] at h1
        rcases h1 with (h1 | h1) | h1
        · exact absurd h1 hs
        · intro c hc
          have := let_no c (by simpa using (wrd_iff h1).1 c hc)
          exact ⟨this.2.1, this.1⟩
        · intro c hc
          have := dig_no c (by simpa using (num_iff h1).1 c hc)
          exact ⟨this.2.1, this.1⟩
      obtain ⟨c, w', ew, _⟩ := tok_head h1
      obtain ⟨q, s3, e3, h5, h6⟩ := lo_word hw (by rw [ew]; simp) h4
      exact ⟨m, s3, by rw [e2, e3], h1, .inr (lo_end h5 he h6), rd_lo h3 h6⟩
end Cy
end

section
set_option linter.all false
set_option maxRecDepth 100000
set_option maxHeartbeats 4000000
/-! Plain: the canonical text has the tree's tokens. -/
namespace Cy
theorem okWord_tok {w : List Nat} (h : okWord w = true) : isTok w = true := by
  unfold okWord at h
  simp only [Bool.and_eq_true] at h
  have : isWrd w = true := by
    unfold isWrd
    simp only [Bool.and_eq_true]
    exact ⟨⟨h.1.1.1, h.1.1.2⟩, h.1.2⟩
  unfold isTok
  rw [this, Bool.or_true, Bool.true_or]
theorem num_tok {n : Nat} (h : n ≤ 100) : isTok (numT n) = true ∧ (numT n).length ≤ 3 := by
  have := (by decide +kernel : ∀ n, n < 101 → isTok (numT n) = true ∧ (numT n).length ≤ 3)
  exact this n (by omega)
theorem end_sym {c : Nat} {s : List Nat} (h : symbols.contains c = true) : endOk (c :: s) = true := by
  show (c == 32 || symbols.contains c) = true
  rw [h, Bool.or_true]
theorem end_blank {s : List Nat} : endOk (32 :: s) = true := rfl
theorem rd_sym {ws : List (List Nat)} {c : Nat} {s : List Nat} (hc : symbols.contains c = true) (h : Rd ws s) : Rd ([c] :: ws) (c :: s) := by
  have hs : isSym [c] = true := hc
  exact rd_tok (w := [c]) (by unfold isTok; rw [hs]; rfl) (.inl hs) h
theorem rd_text : ∀ {n d : Nat} {t : Tr}, Tr.val n d t → ∀ {ws : List (List Nat)} {s : List Nat}, endOk s = true → Rd ws s → Rd (t.tk ++ ws) (t.text ++ s) := by
  intro n
  induction n with
  | zero =>
    intro d t h ws s he hr
    cases t with
    | word w => exact rd_tok (okWord_tok h.2) (.inr he) hr
    | rest => exact rd_sym (c := 95) (by decide) hr
    | _ => exact h.elim
  | succ n ih =>
    intro d t h ws s he hr
    -- several trees with blanks between
    have J : ∀ {ts : List Tr} {d : Nat}, ts ≠ [] → (∀ t ∈ ts, Tr.val n d t) → ∀ {ws : List (List Nat)} {s : List Nat}, endOk s = true → Rd ws s → Rd (Tr.tkR [] ts ++ ws) (joinT [32] (Tr.textL ts) ++ s) := by
      intro ts
      induction ts with
      | nil => intro d h; exact absurd rfl h
      | cons t ts ih2 =>
        intro d _ hv ws s he hr
        cases ts with
        | nil =>
          show Rd ([] ++ (t.tk ++ []) ++ ws) (t.text ++ s)
          rw [List.nil_append, List.append_nil]
          exact ih (hv t (by simp)) he hr
        | cons u r =>
          have h1 := ih2 (d := d) (by simp) (fun t ht => hv t (List.mem_cons_of_mem _ ht)) he hr
          have h2 := ih (hv t (by simp)) end_blank (rd_blank h1)
          show Rd ([] ++ (t.tk ++ Tr.tkR [] (u :: r)) ++ ws) (t.text ++ [32] ++ joinT [32] (Tr.textL (u :: r)) ++ s)
          rw [List.nil_append]
          simp only [List.append_assoc] at h2 ⊢
          exact h2
    have L : ∀ {ts : List Tr} {t : Tr} {d : Nat}, (∀ u ∈ t :: ts, Tr.val n d u) → ∀ {ws : List (List Nat)} {s : List Nat}, endOk s = true → Rd ws s → Rd (t.tk ++ (Tr.tkR [[43]] ts ++ ws)) (joinT [32, 43, 32] (Tr.textL (t :: ts)) ++ s) := by
      intro ts
      induction ts with
      | nil =>
        intro t d hv ws s he hr
        exact ih (hv t (by simp)) he hr
      | cons u r ih2 =>
        intro t d hv ws s he hr
        have h1 := ih2 (t := u) (d := d) (fun t ht => hv t (List.mem_cons_of_mem _ ht)) he hr
        have h2 := ih (hv t (by simp)) end_blank (rd_blank (rd_sym (c := 43) (by decide) (rd_blank h1)))
        show Rd (t.tk ++ ([[43]] ++ (u.tk ++ Tr.tkR [[43]] r) ++ ws)) (t.text ++ [32, 43, 32] ++ joinT [32, 43, 32] (Tr.textL (u :: r)) ++ s)
        simp only [List.append_assoc, List.cons_append, List.nil_append] at h2 ⊢
        exact h2
    have K : ∀ {w : List Nat} {ws : List (List Nat)} {s : List Nat}, isTok w = true → Rd ws s → Rd (w :: [40] :: ws) (w ++ 40 :: s) := fun {w ws s} hw hr => rd_tok hw (.inr (end_sym (by decide))) (rd_sym (by decide) hr)
    cases t with
    | word w => exact rd_tok (okWord_tok h.2) (.inr he) hr
    | rest => exact rd_sym (c := 95) (by decide) hr
    | row ts =>
      have h1 := rd_sym (c := 40) (by decide) (J h.2.1.1 h.2.2 (end_sym (c := 41) (by decide)) (rd_sym (c := 41) (by decide) hr))
      show Rd ([40] :: (Tr.tkR [] ts ++ [[41]]) ++ ws) ([40] ++ joinT [32] (Tr.textL ts) ++ [41] ++ s)
      simp only [List.append_assoc, List.cons_append, List.nil_append] at h1 ⊢
      exact h1
    | turn ts =>
      have h1 := rd_sym (c := 123) (by decide) (J h.2.1.1 h.2.2 (end_sym (c := 125) (by decide)) (rd_sym (c := 125) (by decide) hr))
      show Rd ([123] :: (Tr.tkR [] ts ++ [[125]]) ++ ws) ([123] ++ joinT [32] (Tr.textL ts) ++ [125] ++ s)
      simp only [List.append_assoc, List.cons_append, List.nil_append] at h1 ⊢
      exact h1
    | lay ts =>
      cases ts with
      | nil => exact absurd rfl h.2.1.1
      | cons t ts =>
        have h1 := rd_sym (c := 91) (by decide) (L h.2.2 (end_sym (c := 93) (by decide)) (rd_sym (c := 93) (by decide) hr))
        show Rd ([91] :: ((t.tk ++ Tr.tkR [[43]] ts) ++ [[93]]) ++ ws) ([91] ++ joinT [32, 43, 32] (Tr.textL (t :: ts)) ++ [93] ++ s)
        simp only [List.append_assoc, List.cons_append, List.nil_append] at h1 ⊢
        exact h1
    | fast m t =>
      have h1 := ih h.2 (end_sym (c := 94) (by decide)) (rd_sym (c := 94) (by decide) (rd_tok (num_tok (n := m) (by have := h.1.2; omega)).1 (.inr he) hr))
      show Rd (t.tk ++ [[94], numT m] ++ ws) (t.text ++ [94] ++ numT m ++ s)
      simp only [List.append_assoc, List.cons_append, List.nil_append] at h1 ⊢
      exact h1
    | slow m t =>
      have h1 := ih h.2 (end_sym (c := 58) (by decide)) (rd_sym (c := 58) (by decide) (rd_tok (num_tok (n := m) (by have := h.1.2; omega)).1 (.inr he) hr))
      show Rd (t.tk ++ [[58], numT m] ++ ws) (t.text ++ [58] ++ numT m ++ s)
      simp only [List.append_assoc, List.cons_append, List.nil_append] at h1 ⊢
      exact h1
    | shift a b t =>
      have h1 := ih h.2.2 (end_sym (c := 41) (by decide)) (rd_sym (c := 41) (by decide) hr)
      have h2 := rd_sym (c := 44) (by decide) (rd_blank h1)
      have h3 := rd_tok (num_tok (n := b) (by have := h.2.1.2; omega)).1 (.inr (end_sym (by decide))) h2
      have h4 := rd_tok (num_tok (n := a) (by have := h.2.1; omega)).1 (.inr (end_sym (by decide))) (rd_sym (c := 47) (by decide) h3)
      have h5 := K (w := [108, 97, 116, 101]) (by decide) h4
      show Rd ([[108, 97, 116, 101], [40], numT a, [47], numT b, [44]] ++ (t.tk ++ [[41]]) ++ ws) ([108, 97, 116, 101, 40] ++ numT a ++ [47] ++ numT b ++ [44, 32] ++ t.text ++ [41] ++ s)
      simp only [List.append_assoc, List.cons_append, List.nil_append] at h5 ⊢
      exact h5
    | rev t =>
      have h1 := ih h.2 (end_sym (c := 41) (by decide)) (rd_sym (c := 41) (by decide) hr)
      have h5 := K (w := [109, 105, 114, 114, 111, 114]) (by decide) h1
      show Rd ([[109, 105, 114, 114, 111, 114], [40]] ++ (t.tk ++ [[41]]) ++ ws) ([109, 105, 114, 114, 111, 114, 40] ++ t.text ++ [41] ++ s)
      simp only [List.append_assoc, List.cons_append, List.nil_append] at h5 ⊢
      exact h5
    | every m t u =>
      have h0 := ih h.2.2.2 (end_sym (c := 41) (by decide)) (rd_sym (c := 41) (by decide) hr)
      have h1 := ih h.2.2.1 (end_sym (c := 44) (by decide)) (rd_sym (c := 44) (by decide) (rd_blank h0))
      have h2 := rd_sym (c := 44) (by decide) (rd_blank h1)
      have h3 := rd_tok (num_tok (n := m) (by have := h.2.1.2; omega)).1 (.inr (end_sym (by decide))) h2
      have h5 := K (w := [101, 97, 99, 104]) (by decide) h3
      show Rd ([[101, 97, 99, 104], [40], numT m, [44]] ++ (t.tk ++ ([44] :: (u.tk ++ [[41]]))) ++ ws) ([101, 97, 99, 104, 40] ++ numT m ++ [44, 32] ++ t.text ++ [44, 32] ++ u.text ++ [41] ++ s)
      simp only [List.append_assoc, List.cons_append, List.nil_append] at h5 ⊢
      exact h5
/-- the canonical text's tokens -/
theorem rd_canon {n d : Nat} {t : Tr} (h : Tr.val n d t) : Rd t.tk t.text := by
  have := rd_text h (ws := []) (s := []) rfl (fun c hc => absurd hc (by simp))
  rwa [List.append_nil, List.append_nil] at this
def TL : Nat → Nat
  | 0 => 8
  | n + 1 => 5 * TL n + 20
theorem TL_le : ∀ n, 8 ≤ TL n
  | 0 => Nat.le_refl _
  | n + 1 => by have := TL_le n; show 8 ≤ 5 * TL n + 20; omega
theorem words_len : ∀ w ∈ words, w.length ≤ 8 := by decide
theorem text_len : ∀ {n : Nat} {t : Tr}, Tr.wf n t → t.text.length ≤ TL n := by
  intro n
  induction n with
  | zero => intro t h; cases t <;> first | exact h.elim | exact words_len _ h | (show 1 ≤ 8; decide)
  | succ n ih =>
    intro t h
    have T := TL_le n
    have J : ∀ {s : List Nat}, s.length ≤ 3 → ∀ {ts : List Tr}, Tr.wfL n ts → (joinT s (Tr.textL ts)).length ≤ ts.length * (TL n + 3) := by
      intro s hs ts
      induction ts with
      | nil => intro _; simp [Tr.textL, joinT]
      | cons t ts ih2 =>
        intro h
        have h1 := ih h.1
        have h2 := ih2 h.2
        cases ts with
        | nil => show t.text.length ≤ (0 + 1) * (TL n + 3); omega
        | cons u r =>
          show (t.text ++ s ++ joinT s (Tr.textL (u :: r))).length ≤ ((u :: r).length + 1) * (TL n + 3)
          rw [List.length_append, List.length_append, Nat.succ_mul]
          omega
    have J5 : ∀ {s : List Nat}, s.length ≤ 3 → ∀ {ts : List Tr}, ts.length ≤ 5 → Tr.wfL n ts → (joinT s (Tr.textL ts)).length ≤ 5 * TL n + 15 := fun {s} hs {ts} hl h => by
      have h1 := J hs h
      have h2 : ts.length * (TL n + 3) ≤ 5 * (TL n + 3) := Nat.mul_le_mul_right _ hl
      omega
    show t.text.length ≤ 5 * TL n + 20
    cases t with
    | word w => have := words_len _ h; show w.length ≤ _; omega
    | rest => show 1 ≤ _; omega
    | row ts => have := J5 (s := [32]) (by decide) h.2.1 h.2.2; simp only [Tr.text, List.length_append, List.length_cons, List.length_nil]; omega
    | lay ts => have := J5 (s := [32, 43, 32]) (by decide) h.2.1 h.2.2; simp only [Tr.text, List.length_append, List.length_cons, List.length_nil]; omega
    | turn ts => have := J5 (s := [32]) (by decide) h.2.1 h.2.2; simp only [Tr.text, List.length_append, List.length_cons, List.length_nil]; omega
    | fast m t => have := ih h.2.2; have := (num_tok (n := m) (by have := h.2.1; omega)).2; simp only [Tr.text, List.length_append, List.length_cons, List.length_nil]; omega
    | slow m t => have := ih h.2.2; have := (num_tok (n := m) (by have := h.2.1; omega)).2; simp only [Tr.text, List.length_append, List.length_cons, List.length_nil]; omega
    | shift a b t => have := ih h.2.2.2; have := (num_tok (n := a) (by have := h.1; have := h.2.1; omega)).2; have := (num_tok (n := b) (by have := h.2.1; omega)).2; simp only [Tr.text, List.length_append, List.length_cons, List.length_nil]; omega
    | rev t => have := ih (t := t) h; simp only [Tr.text, List.length_append, List.length_cons, List.length_nil]; omega
    | every m t u => have := ih h.2.2.1; have := ih h.2.2.2; have := (num_tok (n := m) (by have := h.2.1; omega)).2; simp only [Tr.text, List.length_append, List.length_cons, List.length_nil]; omega
theorem text_small {t : Tr} (h : Tr.wf 3 t) : t.text.length ≤ 2000 := Nat.le_trans (text_len h) (by decide)
end Cy
end

section
set_option linter.all false
set_option maxRecDepth 100000
set_option maxHeartbeats 4000000
/-! Plain: _law_equal of a value and itself. -/
namespace Cy
section
variable {C : Cn} {r : Env} {M M1 M2 : Mem} {a b e : Ex} {x y : D} {s : St}
theorem xe_isa {t : Ty} {k : Bool} (h : evE C a r M = .ok x M1) (h2 : isaB t (view M1 x) = some k) : evE C (.isa t a) r M = .ok (.bl k) M1 := by
  show (evE C a r M).bind (fun x M => match isaB t (view M x) with
    | some b => Res.ok (D.bl b) M
    | none => .bad) = _
  rw [h]
  simp only [bind_ok, h2]
theorem xs_par2 {i j : Nat} (h1 : evE C a r M = .ok x M1) (h2 : evE C b r M1 = .ok y M2) : exS C (.seq (.par [i, j] (.cons a (.cons b .nil))) s) r M = exS C s ((r.set i (some x)).set j (some y)) M2 := by
  rw [q_seq, q_par, xa_2 h1 h2]
  rfl
end
theorem dat_pure : ∀ {n : Nat} {x : D}, D.dat n x = true → D.pure x = true := by
  intro n
  induction n with
  | zero => intro x h; cases x <;> first | rfl | cases h
  | succ n ih =>
    intro x h
    have L : ∀ {xs : List D}, D.datL n xs = true → D.pureL xs = true := fun {xs} => by
      induction xs with
      | nil => intro _; rfl
      | cons x xs ih2 =>
        intro h
        simp only [D.datL, Bool.and_eq_true] at h
        simp only [D.pureL, ih h.1, ih2 h.2, Bool.and_self]
    cases x with
    | tup xs => exact L (xs := xs) h
    | lst xs => exact L (xs := xs) h
    | dct => cases h
    | obj => cases h
    | _ => rfl
theorem datL_mem {n : Nat} : ∀ {xs : List D} {x : D}, D.datL n xs = true → x ∈ xs → D.dat n x = true
  | [], _, _, h => absurd h (by simp)
  | y :: ys, x, h, hx => by
    simp only [D.datL, Bool.and_eq_true] at h
    rcases List.mem_cons.mp hx with e | e
    · exact e ▸ h.1
    · exact datL_mem h.2 e
theorem bols_true : ∀ (xs : List D), bolsOf (xs.map fun _ => D.bl true) = some (xs.map fun _ => true)
  | [] => rfl
  | x :: xs => by simp only [List.map_cons, bolsOf, bols_true xs]; rfl
theorem all_true : ∀ (xs : List D), (xs.map fun _ => true).all id = true
  | [] => rfl
  | x :: xs => by rw [List.map_cons, List.all_cons, all_true xs]; rfl
/-- a list's length is small -/
def D.sz : Nat → D → Prop
  | n + 1, .tup xs => xs.length ≤ top ∧ ∀ x ∈ xs, D.sz n x
  | n + 1, .lst xs => xs.length ≤ top ∧ ∀ x ∈ xs, D.sz n x
  | _, _ => True
theorem equal_refl {P : Prog} (h : P.fn 47 = some Bd.f47) (g : P.glob 47 = true) : ∀ (n k : Nat) (x : D) (M : Mem), D.dat n x = true → D.sz n x → runF P (k + n + 1) 47 [x, x] M = .ok (.bl true) M := by
  intro n
  have sc : ∀ (k : Nat) (x : D) (M : Mem), D.flat x = true → runF P (k + 1) 47 [x, x] M = .ok (.bl true) M := fun k x M hx => by
    rw [run_eq h rfl]
    generalize P.cn (runF P k) = C
    show (exS C Bd.b47 [some x, some x, none] M).res = _
    unfold Bd.b47
    cases x with
    | non => rfl
    | bl b =>
      rw [xs_iff rfl, xs_ift rfl (xe_andT rfl (xe_cmp (k := true) rfl rfl (by cases b <;> rfl)))]
      rfl
    | int i =>
      rw [xs_iff rfl, xs_iff rfl, xs_ift rfl (xe_andT rfl (xe_andT rfl (xe_cmp (k := true) rfl rfl (by rw [cop_eqI, beq_self_eq_true]))))]
      rfl
    | str s =>
      rw [xs_iff rfl, xs_iff rfl, xs_iff rfl, xs_ift rfl (xe_andT rfl (xe_cmp (k := true) rfl rfl (by rw [cop_eqS, beq_self_eq_true])))]
      rfl
    | _ => cases hx
  induction n with
  | zero =>
    intro k x M hd _
    exact sc k x M (by cases x <;> first | rfl | cases hd)
  | succ n ih =>
    intro k x M hd hz
    by_cases hx : D.flat x = true
    · exact sc _ x M hx
    have C47 : ∀ x M, D.dat n x = true → D.sz n x → pcall (P.cn (runF P (k + (n + 1)))) 47 [x, x] M = .ok (.bl true) M := fun x M hd hz => pcall_run (ih k x [] hd hz) rfl
    have g47 : (P.cn (runF P (k + (n + 1)))).has 47 = true := g
    rw [run_eq h rfl]
    generalize P.cn (runF P (k + (n + 1))) = C at C47 g47
    show (exS C Bd.b47 [some x, some x, none] M).res = _
    -- the items
    have items : ∀ (x : D) (xs : List D), (∀ i : Nat, index (view M x) (.int i) = xs[i]?) → bi .len [x] M = .ok (.int xs.length) M → xs.length ≤ top → D.datL n xs = true → (∀ x ∈ xs, D.sz n x) →
        evE C (.bi .all (.cons (.comp false (.nm 2) (.rng1 (.bi .len (.cons (.var 1) .nil))) (.cB true) (.pcall 47 (.cons (.idx (.var 0) (.var 2)) (.cons (.idx (.var 1) (.var 2)) .nil)))) .nil)) [some x, some x, none] M = .ok (.bl true) M := fun x xs hix hlen hl hd hz => by
      have sm : small (xs.length : Int) = true := by
        unfold top at hl
        unfold small
        rw [decide_eq_true (by omega), decide_eq_true (by omega)]; rfl
      have ev : evI C (.rng1 (.bi .len (.cons (.var 1) .nil))) [some x, some x, none] M = .ok (.fix 0 xs.length) M := by
        rw [q_rng1, q_bi, xa_1 (xe_var rfl)]
        dsimp only
        rw [hlen]
        dsimp only
        rw [if_pos sm, Int.toNat_natCast]
      have hf : foldC (itemR C (.nm 2) (.cB true) (.pcall 47 (.cons (.idx (.var 0) (.var 2)) (.cons (.idx (.var 1) (.var 2)) .nil))) [some x, some x, none]) ((List.range xs.length).map fun i : Nat => D.int (0 + i)) M [] = .ok ([] ++ ((List.range xs.length).map fun i : Nat => D.int (0 + i)).map fun _ => D.bl true) M := by
        refine foldC_map (g := fun _ => D.bl true) (fun z hz2 => ?_) (by simp only [List.length_nil, List.length_map, List.length_range]; omega)
        obtain ⟨i, hi, e⟩ := List.mem_map.mp hz2
        subst e
        have hi : i < xs.length := List.mem_range.mp hi
        have hm : xs[i] ∈ xs := List.getElem_mem hi
        have e1 : xs[i]? = some xs[i] := List.getElem?_eq_getElem hi
        have pu := dat_pure (datL_mem hd hm)
        unfold itemR
        show (match evE C (.cB true) [some x, some x, some (.int (0 + (i : Int)))] M with
          | .ok (.bl true) M => match evE C (.pcall 47 (.cons (.idx (.var 0) (.var 2)) (.cons (.idx (.var 1) (.var 2)) .nil))) [some x, some x, some (.int (0 + (i : Int)))] M with
            | .ok d M => Res.ok (some d) M
            | _ => .bad
          | .ok (.bl false) M => .ok none M
          | _ => .bad) = _
        have ix : index (view M x) (.int (0 + (i : Int))) = some xs[i] := by rw [Int.zero_add, hix, e1]
        rw [q_cB]
        dsimp only
        rw [xe_pcall2 g47 (xe_idx (xe_var rfl) (xe_var rfl) ix) (xe_idx (xe_var rfl) (xe_var rfl) ix) pu pu (C47 _ M (datL_mem hd hm) (hz _ hm))]
      have hc := q_comp (l := false) ev rfl hf
      rw [q_bi, xa_1 hc]
      show (match bolsOf ([] ++ _) with
        | some l => Res.ok (D.bl (l.all id)) M
        | none => .bad) = _
      rw [List.nil_append, bols_true]
      dsimp only
      rw [all_true]
    unfold Bd.b47
    cases x with
    | tup xs =>
      have it := items (.tup xs) xs (fun i => atI_nat) rfl hz.1 hd hz.2
      generalize Ex.bi .all (.cons (.comp false (.nm 2) (.rng1 (.bi .len (.cons (.var 1) .nil))) (.cB true) (.pcall 47 (.cons (.idx (.var 0) (.var 2)) (.cons (.idx (.var 1) (.var 2)) .nil)))) .nil) = X at it ⊢
      rw [xs_iff rfl, xs_iff rfl, xs_iff rfl, xs_iff rfl, xs_iff rfl, xs_iff rfl, xs_iff (xe_cmp (k := false) rfl rfl (by rw [cop_neI, beq_self_eq_true]; rfl)), xs_ret it]
      rfl
    | lst xs =>
      have it := items (.lst xs) xs (fun i => atI_nat) rfl hz.1 hd hz.2
      generalize Ex.bi .all (.cons (.comp false (.nm 2) (.rng1 (.bi .len (.cons (.var 1) .nil))) (.cB true) (.pcall 47 (.cons (.idx (.var 0) (.var 2)) (.cons (.idx (.var 1) (.var 2)) .nil)))) .nil) = X at it ⊢
      rw [xs_iff rfl, xs_iff rfl, xs_iff rfl, xs_iff rfl, xs_iff rfl, xs_iff rfl, xs_iff (xe_cmp (k := false) rfl rfl (by rw [cop_neI, beq_self_eq_true]; rfl)), xs_ret it]
      rfl
    | dct ks vs => cases hd
    | obj l => cases hd
    | _ => exact absurd rfl hx
end Cy
end

section
set_option linter.all false
set_option maxRecDepth 100000
set_option maxHeartbeats 4000000
set_option exponentiation.threshold 3000
/-! Plain: law k03: the looser text. -/
namespace Cy
def lsC : Ex := (.and (.cmp .eq (.var 7) (.cS [32])) (.cmp .eq (.comp false (.nm 9) (.srcS (.var 8)) (.cmp .inn (.var 9) (.cS [95, 40, 41, 91, 93, 123, 125, 43, 94, 58, 47, 44])) (.var 9)) (.lst false .nil)))
def lsB : St := (.seq (.par [7, 8] (.cons (.idx (.var 4) (.var 6)) (.cons (.bin .add (.sl false (.var 4) (.cons (.bi .max (.cons (.cI 0) (.cons (.bin .sub (.var 6) (.cI 1)) .nil))) .nil) (.cons (.var 6) .nil)) (.sl false (.var 4) (.cons (.bin .add (.var 6) (.cI 1)) .nil) (.cons (.bin .add (.var 6) (.cI 2)) .nil))) .nil)))
      (.seq (.ite lsC
      (.seq (.set (.nm 5) (.bin .add (.var 5) (.cS [32, 32])))
      .nop)
      (.seq (.ite (.cmp .eq (.var 7) (.cS [32]))
      (.seq (.set (.nm 5) (.bin .add (.var 5) (.bin .mul (.cS [32]) (.call 28 (.cons (.var 1) (.cons (.cI 3) .nil))))))
      .nop)
      (.seq (.set (.nm 5) (.bin .add (.bin .add (.var 5) (.var 7)) (.bin .mul (.cS [32]) (.bin .mul (.bi .int (.cons (.cmp .inn (.var 7) (.cS [95, 40, 41, 91, 93, 123, 125, 43, 94, 58, 47, 44])) .nil)) (.call 28 (.cons (.var 1) (.cons (.cI 2) .nil)))))))
      .nop))
      .nop))
      .nop))
theorem sm1000 {a : Nat} (h : a ≤ 1000) : a < 2 ^ 1000 := Nat.lt_of_le_of_lt h (by decide)
theorem rep_one {m : Nat} : rep m [32] = List.replicate m 32 := by
  induction m with
  | zero => rfl
  | succ m ih => rw [rep, ih, List.replicate_succ]; rfl
theorem bop_rep {m : Nat} {M : Mem} (h : m ≤ 1000) : bop .mul (.str [32]) (.int m) M = .ok (.str (List.replicate m 32)) M := by
  show (if decide (0 ≤ (m : Int)) && decide ((m : Int) ≤ 1000) && Nat.ble 1 1000 then Res.ok (D.str (rep (m : Int).toNat [32])) M else .bad) = _
  rw [decide_eq_true (by omega), decide_eq_true (by omega), Int.toNat_natCast, rep_one]
  rfl
theorem xe_slN {C : Cn} {r : Env} {M : Mem} {a b c : Ex} {s : List Nat} {i j : Nat} (h1 : evE C a r M = .ok (.str s) M) (h2 : evE C b r M = .ok (.int i) M) (h3 : evE C c r M = .ok (.int j) M) :
    evE C (.sl false a (.cons b .nil) (.cons c .nil)) r M = .ok (.str ((s.drop (min i s.length)).take (min j s.length - min i s.length))) M := by
  show ((evE C a r M).bind fun x M => (evP C (.cons b .nil) r M).bind fun i M => (evP C (.cons c .nil) r M).bind fun j M => match slice (view M x) i j with
    | some (.lst xs) => mkL false xs M
    | some d => if false then .bad else .ok d M
    | none => .bad) = _
  rw [h1]
  simp only [bind_ok]
  rw [show evP C (.cons b .nil) r M = .ok (some (i : Int)) M from by
    show ((evE C b r M).bind fun x M => _) = _
    rw [h2]
    rfl]
  simp only [bind_ok]
  rw [show evP C (.cons c .nil) r M = .ok (some (j : Int)) M from by
    show ((evE C c r M).bind fun x M => _) = _
    rw [h3]
    rfl]
  simp only [bind_ok]
  have e : slice (view M (.str s)) (some (i : Int)) (some (j : Int)) = some (.str ((s.drop (min i s.length)).take (min j s.length - min i s.length))) := by
    show some (D.str (cut s (some (i : Int)) (some (j : Int)))) = _
    unfold cut
    rw [sIx_nat, sIx_nat]
  rw [e]
  rfl
/-- the sign before a place -/
def prevO (text : List Nat) (k : Nat) : Option Nat := if k = 0 then none else text[k - 1]?
theorem cut_prev {text : List Nat} {k : Nat} (hk : k ≤ text.length) : (text.drop (min (k - 1) text.length)).take (min k text.length - min (k - 1) text.length) = (prevO text k).toList := by
  unfold prevO
  by_cases h : k = 0
  · subst h
    rw [if_pos rfl, Nat.zero_sub, Nat.zero_min, Nat.sub_self, List.take_zero]
    rfl
  · rw [if_neg h, Nat.min_eq_left hk, Nat.min_eq_left (by omega), show k - (k - 1) = 1 by omega]
    have h1 : k - 1 < text.length := by omega
    rw [List.drop_eq_getElem_cons h1, List.getElem?_eq_getElem h1]
    rfl
theorem cut_next {text r : List Nat} {k c : Nat} (h : text.drop k = c :: r) : (text.drop (min (k + 1) text.length)).take (min (k + 2) text.length - min (k + 1) text.length) = r.take 1 := by
  obtain ⟨h1, h2, h3⟩ := at_drop h
  have e : r.length = text.length - (k + 1) := by rw [← h3, List.length_drop]
  rw [Nat.min_eq_left (show k + 1 ≤ text.length by omega), h3]
  by_cases q : k + 2 ≤ text.length
  · rw [Nat.min_eq_left q, show k + 2 - (k + 1) = 1 by omega]
  · have : r = [] := List.length_eq_zero_iff.mp (by omega)
    subst this
    rw [List.take_nil, List.take_nil]
def symD : D → Bool
  | .str [c] => symbols.contains c
  | _ => false
theorem q_srcS {C : Cn} {r : Env} {M : Mem} {e : Ex} {s : List Nat} (h : evE C e r M = .ok (.str s) M) : evI C (.srcS e) r M = .ok (.chr s) M := by
  show (evE C e r M).bind (fun x M => match x with
    | .str s => Res.ok (Src.chr s) M
    | _ => .bad) = _
  rw [h]
  rfl
theorem datL_strs : ∀ {xs : List D}, (∀ x ∈ xs, ∃ c, x = .str [c]) → ∀ n, D.datL n xs = true
  | [], _, _ => rfl
  | x :: xs, h, n => by
    obtain ⟨c, e⟩ := h x List.mem_cons_self
    subst e
    simp only [D.datL, datL_strs fun x hx => h x (List.mem_cons_of_mem _ hx), Bool.and_true]
    cases n <;> rfl
theorem ls_cond {C : Cn} {r : Env} {M : Mem} {c : Nat} {bs : List Nat} (h7 : r[7]? = some (some (.str [c]))) (h8 : r[8]? = some (some (.str bs))) (h9 : 9 < r.length) (hl : bs.length ≤ 2) :
    evE C lsC r M = .ok (.bl ((c == 32) && !(bs.any fun c => symbols.contains c))) M := by
  have e1 : evE C (.cmp .eq (.var 7) (.cS [32])) r M = .ok (.bl (c == 32)) M := xe_cmp (xe_var h7) rfl (by
    rw [cop_eqS]
    simp)
  have hf : foldC (itemR C (.nm 9) (.cmp .inn (.var 9) (.cS [95, 40, 41, 91, 93, 123, 125, 43, 94, 58, 47, 44])) (.var 9) r) (bs.map fun c => D.str [c]) M [] = .ok ([] ++ (bs.map fun c => D.str [c]).filter symD) M := by
    refine foldC_filter (fun x hx => ?_) (by rw [List.length_map]; unfold top; simp; omega)
    obtain ⟨d, _, e⟩ := List.mem_map.mp hx
    subst e
    have gv : ((wipeR r [9]).set 9 (some (.str [d])))[9]? = some (some (.str [d])) := by
      apply List.getElem?_set_self
      show 9 < (List.set (wipeR r []) 9 none).length
      simpa [wipeR] using h9
    have ec : evE C (.cmp .inn (.var 9) (.cS [95, 40, 41, 91, 93, 123, 125, 43, 94, 58, 47, 44])) ((wipeR r [9]).set 9 (some (.str [d]))) M = .ok (.bl (symbols.contains d)) M := xe_cmp (xe_var gv) rfl rfl
    unfold itemR
    show (match evE C _ ((wipeR r [9]).set 9 (some (.str [d]))) M with
      | .ok (.bl true) M => match evE C (.var 9) ((wipeR r [9]).set 9 (some (.str [d]))) M with
        | .ok d M => Res.ok (some d) M
        | _ => .bad
      | .ok (.bl false) M => .ok none M
      | _ => .bad) = .ok (if symbols.contains d = true then some (D.str [d]) else none) M
    rw [ec]
    cases symbols.contains d with
    | true =>
      dsimp only
      rw [xe_var gv]
      rfl
    | false => rfl
  have hc := q_comp (C := C) (l := false) (t := .nm 9) (c := .cmp .inn (.var 9) (.cS [95, 40, 41, 91, 93, 123, 125, 43, 94, 58, 47, 44])) (e := .var 9) (q_srcS (xe_var h8)) rfl hf
  have e2 : evE C (.cmp .eq (.comp false (.nm 9) (.srcS (.var 8)) (.cmp .inn (.var 9) (.cS [95, 40, 41, 91, 93, 123, 125, 43, 94, 58, 47, 44])) (.var 9)) (.lst false .nil)) r M = .ok (.bl (!(bs.any fun c => symbols.contains c))) M := by
    refine xe_cmp hc rfl ?_
    rw [List.nil_append]
    have dt : D.dat 60 (.lst ((bs.map fun c => D.str [c]).filter symD)) = true := datL_strs (fun x hx => by
      obtain ⟨d, _, e⟩ := List.mem_map.mp (List.mem_filter.mp hx).1
      exact ⟨d, e.symm⟩) 59
    show (if (D.dat 60 (.lst ((bs.map fun c => D.str [c]).filter symD)) && D.dat 60 (.lst [])) = true then some (D.eqv (.lst ((bs.map fun c => D.str [c]).filter symD)) (.lst [])) else none) = _
    rw [dt, if_pos (by rfl)]
    congr 1
    have ne : ∀ bs : List Nat, D.eqv (.lst ((bs.map fun c => D.str [c]).filter symD)) (.lst []) = !(bs.any fun c => symbols.contains c) := by
      intro bs
      induction bs with
      | nil => rfl
      | cons d bs ih =>
        rw [List.map_cons, List.filter_cons, List.any_cons]
        show D.eqv (.lst (if symbols.contains d = true then _ else _)) _ = _
        cases symbols.contains d with
        | true => rfl
        | false => exact ih
    exact ne bs
  unfold lsC
  by_cases q : (c == 32) = true
  · rw [q] at e1 ⊢
    rw [xe_andT e1 e2, Bool.true_and]
  · rw [Bool.not_eq_true] at q
    rw [q] at e1 ⊢
    rw [xe_andF e1, Bool.false_and]
section
variable {C : Cn} {M : Mem} {l : Nat} (g28 : C.has 28 = true)
  (C28 : ∀ (s : Rnd) (n' : Int), s.ok → 0 < n' → n'.natAbs.log2 < 9000 → C.call 28 [.obj l, .int n'] (M.set l (.lst s.d)) = .ok (.int (s.out n')) (M.set l (.lst (s.next n').d)))
include g28 C28
theorem ls_step {text r w : List Nat} {k c : Nat} {s : Rnd} {x0 x2 x3 x7 x8 x9 : Option D} (h : text.drop k = c :: r) (hw : w.length ≤ 1000000) (ok : s.ok) :
    ∃ (m : Nat) (s' : Rnd) (y7 y8 : Option D), s'.ok ∧ m ≤ 2 ∧ (c = 32 → 1 ≤ m ∨ symO (prevO text k) = true ∨ symO r.head? = true) ∧ (c ≠ 32 → m = 0 ∨ symbols.contains c = true) ∧
      exS C lsB [x0, some (.obj l), x2, x3, some (.str text), some (.str w), some (.int k), x7, x8, x9] (M.set l (.lst s.d)) =
        .nx [x0, some (.obj l), x2, x3, some (.str text), some (.str (w ++ ((if c = 32 then [] else [c]) ++ List.replicate m 32))), some (.int k), y7, y8, x9] (M.set l (.lst s'.d)) := by
  obtain ⟨h1, h2, h3⟩ := at_drop h
  have mx : ∀ M, evE C (.bi .max (.cons (.cI 0) (.cons (.bin .sub (.var 6) (.cI 1)) .nil))) [x0, some (.obj l), x2, x3, some (.str text), some (.str w), some (.int k), x7, x8, x9] M = .ok (.int (k - 1 : Nat)) M := fun M => by
    rw [q_bi, xa_2 (x := .int 0) (y := .int ((k : Int) - 1)) (M1 := M) (M2 := M) rfl rfl]
    show Res.ok (D.int (if (k : Int) - 1 > 0 then (k : Int) - 1 else 0)) M = _
    split
    · rw [show ((k : Int) - 1) = ((k - 1 : Nat) : Int) by omega]
    · rw [show ((k - 1 : Nat) : Int) = 0 by omega]
  have bs : ∀ M, evE C (.bin .add (.sl false (.var 4) (.cons (.bi .max (.cons (.cI 0) (.cons (.bin .sub (.var 6) (.cI 1)) .nil))) .nil) (.cons (.var 6) .nil)) (.sl false (.var 4) (.cons (.bin .add (.var 6) (.cI 1)) .nil) (.cons (.bin .add (.var 6) (.cI 2)) .nil))) [x0, some (.obj l), x2, x3, some (.str text), some (.str w), some (.int k), x7, x8, x9] M = .ok (.str ((prevO text k).toList ++ r.take 1)) M := fun M => by
    have a1 := xe_slN (C := C) (M := M) (s := text) (i := k - 1) (j := k) (a := .var 4) (r := [x0, some (.obj l), x2, x3, some (.str text), some (.str w), some (.int k), x7, x8, x9]) rfl (mx M) (c := .var 6) rfl
    have a2 := xe_slN (C := C) (M := M) (s := text) (i := k + 1) (j := k + 2) (a := .var 4) (b := .bin .add (.var 6) (.cI 1)) (c := .bin .add (.var 6) (.cI 2)) (r := [x0, some (.obj l), x2, x3, some (.str text), some (.str w), some (.int k), x7, x8, x9]) rfl rfl rfl
    rw [cut_prev (by omega)] at a1
    rw [cut_next h] at a2
    refine xe_cat a1 a2 ?_
    have t1 : (prevO text k).toList.length ≤ 1 := by cases prevO text k <;> simp
    have t2 : (r.take 1).length ≤ 1 := by rw [List.length_take]; omega
    unfold top; omega
  have bl : ((prevO text k).toList ++ r.take 1).length ≤ 2 := by
    have t1 : (prevO text k).toList.length ≤ 1 := by cases prevO text k <;> simp
    have t2 : (r.take 1).length ≤ 1 := by rw [List.length_take]; omega
    rw [List.length_append]; omega
  have any : ((prevO text k).toList ++ r.take 1).any (fun c => symbols.contains c) = (symO (prevO text k) || symO r.head?) := by
    rw [List.any_append]
    congr 1
    · cases prevO text k with
      | none => rfl
      | some d => show (symbols.contains d || false) = _; rw [Bool.or_false]; rfl
    · cases r with
      | nil => rfl
      | cons d r => show (symbols.contains d || false) = _; rw [Bool.or_false]; rfl
  have ec := ls_cond (C := C) (M := M.set l (.lst s.d)) (r := [x0, some (.obj l), x2, x3, some (.str text), some (.str w), some (.int k), some (.str [c]), some (.str ((prevO text k).toList ++ r.take 1)), x9]) (c := c) (bs := (prevO text k).toList ++ r.take 1) rfl rfl (by simp) bl
  rw [any] at ec
  have head : exS C lsB [x0, some (.obj l), x2, x3, some (.str text), some (.str w), some (.int k), x7, x8, x9] (M.set l (.lst s.d)) = _ :=
    xs_par2 (xe_idx (z := .str [c]) (xe_var rfl) (xe_var rfl) (str_at h2)) (bs (M.set l (.lst s.d)))
  by_cases hc : c = 32
  · subst hc
    by_cases hs : (symO (prevO text k) || symO r.head?) = true
    · -- a symbol beside
      rw [hs, show ((32 == 32) && !true) = false from rfl] at ec
      have d3 := C28 s 3 ok (by decide) (by decide)
      have o3 := out_ok (s := s) (n := 3) (by decide)
      obtain ⟨m, em⟩ := Int.eq_ofNat_of_zero_le o3.1
      rw [em] at d3
      refine ⟨m, s.next 3, some (.str [32]), some (.str ((prevO text k).toList ++ r.take 1)), next_ok' ok, by omega, fun _ => .inr ?_, fun q => absurd rfl q, ?_⟩
      · rw [Bool.or_eq_true] at hs; exact hs
      · rw [head]
        show exS C (.seq (.ite lsC _ _) .nop) [x0, some (.obj l), x2, x3, some (.str text), some (.str w), some (.int k), some (.str [32]), some (.str ((prevO text k).toList ++ r.take 1)), x9] _ = _
        rw [q_seq, q_if, ec]
        dsimp only
        rw [xs_ifx (M1 := M.set l (.lst (s.next 3).d)) (r' := [x0, some (.obj l), x2, x3, some (.str text), some (.str (w ++ List.replicate m 32)), some (.int k), some (.str [32]), some (.str ((prevO text k).toList ++ r.take 1)), x9]) (xe_cmp (k := true) (xe_var rfl) rfl rfl) ?_]
        · rfl
        · rw [xs_set (xe_cat (p := w) (q := List.replicate m 32) (xe_var rfl) (xe_bin (x := .str [32]) (y := .int m) (M2 := M.set l (.lst (s.next 3).d)) rfl (by
            rw [q_call g28, xa_2 (xe_var rfl) rfl]
            exact d3) (bop_rep (by omega))) (by rw [List.length_replicate]; unfold top; omega))]
          rfl
    · -- none beside
      rw [Bool.not_eq_true] at hs
      rw [hs] at ec
      refine ⟨2, s, some (.str [32]), some (.str ((prevO text k).toList ++ r.take 1)), ok, by omega, fun _ => .inl (by omega), fun q => absurd rfl q, ?_⟩
      rw [head]
      show exS C (.seq (.ite lsC _ _) .nop) [x0, some (.obj l), x2, x3, some (.str text), some (.str w), some (.int k), some (.str [32]), some (.str ((prevO text k).toList ++ r.take 1)), x9] _ = _
      rw [xs_ifx (M1 := M.set l (.lst s.d)) (r' := [x0, some (.obj l), x2, x3, some (.str text), some (.str (w ++ [32, 32])), some (.int k), some (.str [32]), some (.str ((prevO text k).toList ++ r.take 1)), x9]) ec ?_]
      · rfl
      · rw [xs_set (xe_cat (p := w) (q := [32, 32]) (xe_var rfl) rfl (by unfold top; simp; omega))]
        rfl
  · have b32 : (c == 32) = false := by simpa using hc
    rw [b32, Bool.false_and] at ec
    have d2 := C28 s 2 ok (by decide) (by decide)
    have o2 := out_ok (s := s) (n := 2) (by decide)
    obtain ⟨m, em⟩ := Int.eq_ofNat_of_zero_le o2.1
    rw [em] at d2
    refine ⟨(if symbols.contains c then 1 else 0) * m, s.next 2, some (.str [c]), some (.str ((prevO text k).toList ++ r.take 1)), next_ok' ok, ?_, fun q => absurd q hc, fun _ => ?_, ?_⟩
    · cases symbols.contains c <;> simp <;> omega
    · cases symbols.contains c with
      | true => exact .inr rfl
      | false => left; simp
    · rw [head]
      show exS C (.seq (.ite lsC _ _) .nop) [x0, some (.obj l), x2, x3, some (.str text), some (.str w), some (.int k), some (.str [c]), some (.str ((prevO text k).toList ++ r.take 1)), x9] _ = _
      rw [q_seq, q_if, ec]
      dsimp only
      rw [q_seq, q_if, xe_cmp (k := false) (xe_var rfl) rfl (by
        rw [cop_eqS]
        simp [hc])]
      dsimp only
      have lm : (if symbols.contains c = true then 1 else 0) * m ≤ 2 := by cases symbols.contains c <;> simp <;> omega
      have ei : ∀ r : Env, r[7]? = some (some (.str [c])) → ∀ M, evE C (.bi .int (.cons (.cmp .inn (.var 7) (.cS [95, 40, 41, 91, 93, 123, 125, 43, 94, 58, 47, 44])) .nil)) r M = .ok (.int (if symbols.contains c = true then 1 else 0 : Nat)) M := fun r hr M => by
        rw [q_bi, xa_1 (xe_cmp (k := symbols.contains c) (xe_var hr) rfl rfl)]
        cases symbols.contains c <;> rfl
      have em2 : ∀ r : Env, r[7]? = some (some (.str [c])) → r[1]? = some (some (.obj l)) → evE C (.bin .mul (.bi .int (.cons (.cmp .inn (.var 7) (.cS [95, 40, 41, 91, 93, 123, 125, 43, 94, 58, 47, 44])) .nil)) (.call 28 (.cons (.var 1) (.cons (.cI 2) .nil)))) r (M.set l (.lst s.d)) = .ok (.int ((if symbols.contains c = true then 1 else 0) * m : Nat)) (M.set l (.lst (s.next 2).d)) := fun r hr hr1 => by
        refine xe_bin (M2 := M.set l (.lst (s.next 2).d)) (ei r hr _) (by
          rw [q_call g28, xa_2 (xe_var hr1) rfl]
          exact d2) ?_
        rw [bop_mul (wide_nat (sm1000 (by cases symbols.contains c <;> simp))) (wide_nat (sm1000 (by omega)))]
        rw [Int.natCast_mul]
      rw [xs_set (xe_cat (p := w ++ [c]) (q := List.replicate ((if symbols.contains c = true then 1 else 0) * m) 32) (xe_cat (p := w) (q := [c]) (xe_var rfl) (xe_var rfl) (by unfold top; simp; omega)) (xe_bin (x := .str [32]) (M2 := M.set l (.lst (s.next 2).d)) rfl (em2 _ rfl rfl) (bop_rep (by omega))) (by rw [List.length_replicate]; unfold top; simp only [List.length_append, List.length_cons, List.length_nil]; omega))]
      rw [if_neg hc, List.append_assoc]
      rfl
theorem ls_loop {text : List Nat} {x0 x2 x3 : Option D} (ht : text.length ≤ 2000) : ∀ (r : List Nat) (k : Nat) (w : List Nat) (s : Rnd) (x6 x7 x8 x9 : Option D), text.drop k = r → s.ok → w.length ≤ 3 * k → k ≤ text.length →
    ∃ (w' : List Nat) (s' : Rnd) (y6 y7 y8 : Option D), s'.ok ∧ Lo (prevO text k) r w' ∧ w'.length ≤ 3 * r.length ∧
      foldO (.nm 6) (exS C lsB) ((List.range' k r.length).map fun i : Nat => D.int (0 + i)) [x0, some (.obj l), x2, x3, some (.str text), some (.str w), x6, x7, x8, x9] (M.set l (.lst s.d)) =
        .nx [x0, some (.obj l), x2, x3, some (.str text), some (.str (w ++ w')), y6, y7, y8, x9] (M.set l (.lst s'.d))
  | [], k, w, s, x6, x7, x8, x9, _, ok, _, _ => ⟨[], s, x6, x7, x8, ok, rfl, Nat.le_refl _, by rw [List.append_nil]; rfl⟩
  | c :: r, k, w, s, x6, x7, x8, x9, h, ok, hw, hk => by
    obtain ⟨h1, h2, h3⟩ := at_drop h
    obtain ⟨m, s1, y7, y8, ok1, hm, c1, c2, e⟩ := ls_step g28 C28 (x0 := x0) (x2 := x2) (x3 := x3) (x7 := x7) (x8 := x8) (x9 := x9) h (by omega : w.length ≤ 1000000) ok
    have lw : (w ++ ((if c = 32 then [] else [c]) ++ List.replicate m 32)).length ≤ 3 * (k + 1) := by
      simp only [List.length_append, List.length_replicate]
      split <;> simp <;> omega
    obtain ⟨w', s', z6, z7, z8, ok', lo, ll, e'⟩ := ls_loop ht r (k + 1) (w ++ ((if c = 32 then [] else [c]) ++ List.replicate m 32)) s1 (some (.int k)) y7 y8 x9 h3 ok1 lw (by omega)
    have pv : prevO text (k + 1) = some c := by
      unfold prevO
      rw [if_neg (by omega), Nat.add_sub_cancel]
      exact h2
    rw [pv] at lo
    refine ⟨(if c = 32 then [] else [c]) ++ (List.replicate m 32 ++ w'), s', z6, z7, z8, ok', ⟨m, w', rfl, c1, c2, lo⟩, ?_, ?_⟩
    · simp only [List.length_append, List.length_replicate, List.length_cons]
      split <;> simp <;> omega
    · rw [List.length_cons, List.range'_succ, List.map_cons]
      have ez : (D.int (0 + (k : Int))) = D.int k := by rw [Int.zero_add]
      rw [ez]
      show (match exS C lsB [x0, some (.obj l), x2, x3, some (.str text), some (.str w), some (.int k), x7, x8, x9] (M.set l (.lst s.d)) with
        | .nx r M => foldO (.nm 6) (exS C lsB) _ r M
        | .ct r M => foldO (.nm 6) (exS C lsB) _ r M
        | .bk r M => .nx r M
        | o => o) = _
      rw [e]
      dsimp only
      rw [e']
      simp only [List.append_assoc]
end
end Cy
end

section
set_option linter.all false
set_option maxRecDepth 100000
set_option maxHeartbeats 4000000
/-! Plain: law k03. -/
namespace Cy
def lkC1 : Ex := .not (.pcall 47 (.cons (.lst false (.cons (.pcall 24 (.cons (.var 4) .nil)) (.cons (.pcall 24 (.cons (.var 5) .nil)) .nil))) (.cons (.lst false (.cons (.var 4) (.cons (.var 4) .nil))) .nil)))
def lkC2 : Ex := .not (.pcall 47 (.cons (.pcall 46 (.cons (.var 5) .nil)) (.cons (.pcall 33 (.cons (.var 3) .nil)) .nil)))
def lkB : St := (.seq (.set (.nm 3) (.call 35 (.cons (.var 1) .nil)))
      (.seq (.set (.nm 4) (.pcall 27 (.cons (.var 3) .nil)))
      (.seq (.set (.nm 5) (.cS []))
      (.seq (.for_ (.nm 6) (.rng1 (.bi .len (.cons (.var 4) .nil))) lsB)
      (.seq (.ite lkC1
      (.seq (.ret (.cB false))
      .nop)
      .nop)
      (.seq (.ite lkC2
      (.seq (.ret (.cB false))
      .nop)
      .nop)
      .nop))))))
def lkE : Ex := (.cmp .eq (.pcall 24 (.cons (.cS [108, 97, 116, 101, 40, 50, 47, 52, 44, 108, 97, 116, 101, 40, 48, 47, 57, 44, 97, 41, 41]) .nil)) (.cS [108, 97, 116, 101, 40, 49, 47, 50, 44, 32, 108, 97, 116, 101, 40, 48, 47, 49, 44, 32, 97, 41, 41]))
def lk03 : St := (.seq (.set (.nm 1) (.call 25 (.cons (.var 0) (.cons (.cI 3) .nil))))
      (.seq (.for_ (.nm 2) (.rng1 (.cI 5)) lkB)
      (.seq (.ret lkE)
      .nop)))
structure K03P (P : Prog) : Prop where
  pat : PatP P
  fmt : FmtP P
  random : P.fn 25 = some Bd.f25
  text : P.fn 27 = some Bd.f27
  g25 : P.glob 25 = true
  g27 : P.glob 27 = true
  count : P.fn 45 = some Bd.f45
  g45 : P.glob 45 = true
  meas : P.fn 46 = some Bd.f46
  g46 : P.glob 46 = true
  eqv : P.fn 47 = some Bd.f47
  g47 : P.glob 47 = true
theorem good_val {t : Tr} (h : Tr.good t) : Tr.val 3 1 t := wf_val h.wf (by decide)
theorem good_un {t : Tr} (h : Tr.good t) : t.un ≤ 60 := by
  have h1 := units_un (wf_ok h.wf)
  have h2 := h.units
  omega
section
variable {P : Prog} {M : Mem} {l : Nat}
theorem k03_step (H : K03P P) (hl : l < M.length) (s : Rnd) (ok : s.ok) (x0 x2 x3 x4 x5 x6 x7 x8 x9 : Option D) (k : Nat) :
    ∃ (s' : Rnd) (y3 y4 y5 y6 y7 y8 : Option D), s'.ok ∧ exS (P.cn (runF P (k + 20))) lkB [x0, some (.obj l), x2, x3, x4, x5, x6, x7, x8, x9] (M.set l (.lst s.d)) = .nx [x0, some (.obj l), x2, y3, y4, y5, y6, y7, y8, x9] (M.set l (.lst s'.d)) := by
  obtain ⟨t, s1, gt, ok1, e1⟩ := pattern_run H.pat hl (k + 13) s ok
  have wk := wf_ok gt.wf
  have tl := text_small gt.wf
  have hv := good_val gt
  have hu := good_un gt
  have C28 := fun (s : Rnd) (n' : Int) (ok : s.ok) (hn : 0 < n') (hs : n'.natAbs.log2 < 9000) => draw (k := k + 19) H.pat.below hl ok hn hs
  have e27 : ∀ M, pcall (P.cn (runF P (k + 20))) 27 [t.d] M = .ok (.str t.text) M := fun M => pcall_run (text_run H.text H.g27 3 (k + 16) t [] wk (by omega)) rfl
  have e33 : ∀ M, pcall (P.cn (runF P (k + 20))) 33 [t.d] M = .ok (.int t.units) M := fun M => pcall_run (units_run H.pat.units H.pat.g33 3 (k + 16) t [] wk) rfl
  obtain ⟨w, s2, y6, y7, y8, ok2, lo, ll, e2⟩ := ls_loop (C := P.cn (runF P (k + 20))) (M := M) (l := l) H.pat.g28 C28 (text := t.text) (x0 := x0) (x2 := x2) (x3 := some t.d) tl t.text 0 [] s1 x6 x7 x8 x9 rfl ok1 (by simp) (by omega)
  have hr := rd_canon hv
  have r1 : Reads t.text t := reads_rd hr (by omega)
  have r2 : Reads w t := reads_rd (rd_lo hr lo) (by omega)
  have rt : t.red = t := red_wf gt.wf
  have e24 : ∀ (x : List Nat) M, Reads x t → pcall (P.cn (runF P (k + 20))) 24 [.str x] M = .ok (.str t.text) M := fun x M hx => by
    have := fp_run H.fmt (n := 3) (by decide) hx hv hu (by have := gt.weight; omega) (by rw [rt]; omega) (k + 5) []
    rw [rt] at this
    exact pcall_run this rfl
  have e46 : ∀ M, pcall (P.cn (runF P (k + 20))) 46 [.str w] M = .ok (.int t.units) M := fun M => by
    have := measure_run H.fmt.toLoadP H.count H.g45 H.meas (n := 3) (by decide) r2 hv hu (by have := gt.weight; omega) (k + 5) []
    rw [rt] at this
    exact pcall_run this rfl
  have e47 : ∀ (n : Nat) (x : D) M, n ≤ 10 → D.dat n x = true → D.sz n x → pcall (P.cn (runF P (k + 20))) 47 [x, x] M = .ok (.bl true) M := fun n x M hn h1 h2 => by
    have := equal_refl H.eqv H.g47 n (k + 19 - n) x [] h1 h2
    rw [show k + 19 - n + n + 1 = k + 20 by omega] at this
    exact pcall_run this rfl
  have g24 : (P.cn (runF P (k + 20))).has 24 = true := H.fmt.g24
  have g27 : (P.cn (runF P (k + 20))).has 27 = true := H.g27
  have g33 : (P.cn (runF P (k + 20))).has 33 = true := H.pat.g33
  have g35 : (P.cn (runF P (k + 20))).has 35 = true := H.pat.g35
  have g46 : (P.cn (runF P (k + 20))).has 46 = true := H.g46
  have g47 : (P.cn (runF P (k + 20))).has 47 = true := H.g47
  have e35 : (P.cn (runF P (k + 20))).call 35 [.obj l] (M.set l (.lst s.d)) = .ok t.d (M.set l (.lst s1.d)) := e1
  generalize P.cn (runF P (k + 20)) = C at e27 e33 e24 e46 e47 g24 g27 g33 g35 g46 g47 e35 e2
  have pt := ok_pure wk
  refine ⟨s2, some t.d, some (.str t.text), some (.str w), y6, y7, y8, ok2, ?_⟩
  have sm : small (t.text.length : Int) = true := by
    unfold small
    rw [decide_eq_true (by omega), decide_eq_true (by omega)]; rfl
  have ev : evI C (.rng1 (.bi .len (.cons (.var 4) .nil))) [x0, some (.obj l), x2, some t.d, some (.str t.text), some (.str []), x6, x7, x8, x9] (M.set l (.lst s1.d)) = .ok (.fix 0 t.text.length) (M.set l (.lst s1.d)) := by
    rw [q_rng1, q_bi, xa_1 (xe_var rfl)]
    show (if small (t.text.length : Int) = true then Res.ok (Src.fix 0 (t.text.length : Int).toNat) _ else .bad) = _
    rw [if_pos sm, Int.toNat_natCast]
  have ef := q_for (g := .nm 6) (s := lsB) ev rfl
  rw [List.range_eq_range', e2, List.nil_append] at ef
  unfold lkB
  rw [xs_set (xe_call1 g35 (xe_var rfl) e35)]
  rw [xs_set (xe_pcall1 g27 (xe_var rfl) pt (e27 _))]
  rw [xs_set (x := .str []) rfl]
  show exS C _ [x0, some (.obj l), x2, some t.d, some (.str t.text), some (.str []), x6, x7, x8, x9] _ = _
  rw [q_seq, ef]
  dsimp only
  have c1 : evE C lkC1 [x0, some (.obj l), x2, some t.d, some (.str t.text), some (.str w), y6, y7, y8, x9] (M.set l (.lst s2.d)) = .ok (.bl false) (M.set l (.lst s2.d)) := by
    refine xe_notF (k := true) ?_
    have a1 : ∀ (x : List Nat), Reads x t → ∀ i, [x0, some (.obj l), x2, some t.d, some (.str t.text), some (.str w), y6, y7, y8, x9][i]? = some (some (.str x)) → evE C (.pcall 24 (.cons (.var i) .nil)) [x0, some (.obj l), x2, some t.d, some (.str t.text), some (.str w), y6, y7, y8, x9] (M.set l (.lst s2.d)) = .ok (.str t.text) (M.set l (.lst s2.d)) := fun x hx i hi => xe_pcall1 g24 (xe_var hi) rfl (e24 x _ hx)
    have a2 : evE C (.lst false (.cons (.pcall 24 (.cons (.var 4) .nil)) (.cons (.pcall 24 (.cons (.var 5) .nil)) .nil))) [x0, some (.obj l), x2, some t.d, some (.str t.text), some (.str w), y6, y7, y8, x9] (M.set l (.lst s2.d)) = .ok (.lst [.str t.text, .str t.text]) (M.set l (.lst s2.d)) := by
      rw [q_lst2, a1 t.text r1 4 rfl]
      dsimp only
      rw [a1 w r2 5 rfl]
      rfl
    exact xe_pcall2 g47 a2 (y := .lst [.str t.text, .str t.text]) rfl rfl rfl (e47 1 _ _ (by decide) rfl ⟨by unfold top; simp, fun x hx => by cases x <;> trivial⟩)
  rw [xs_iff c1]
  have c2 : evE C lkC2 [x0, some (.obj l), x2, some t.d, some (.str t.text), some (.str w), y6, y7, y8, x9] (M.set l (.lst s2.d)) = .ok (.bl false) (M.set l (.lst s2.d)) := by
    refine xe_notF (k := true) ?_
    exact xe_pcall2 g47 (xe_pcall1 g46 (xe_var rfl) rfl (e46 _)) (xe_pcall1 g33 (xe_var rfl) pt (e33 _)) rfl rfl (e47 0 _ _ (by decide) rfl trivial)
  rw [xs_iff c2, q_nop]
theorem k03_loop (H : K03P P) (hl : l < M.length) (k : Nat) : ∀ (xs : List D) (s : Rnd) (x0 x2 x3 x4 x5 x6 x7 x8 x9 : Option D), s.ok →
    ∃ (s' : Rnd) (r' : Env), s'.ok ∧ foldO (.nm 2) (exS (P.cn (runF P (k + 20))) lkB) xs [x0, some (.obj l), x2, x3, x4, x5, x6, x7, x8, x9] (M.set l (.lst s.d)) = .nx r' (M.set l (.lst s'.d))
  | [], s, x0, x2, x3, x4, x5, x6, x7, x8, x9, ok => ⟨s, _, ok, rfl⟩
  | x :: xs, s, x0, x2, x3, x4, x5, x6, x7, x8, x9, ok => by
    obtain ⟨s1, y3, y4, y5, y6, y7, y8, ok1, e⟩ := k03_step H hl s ok x0 (some x) x3 x4 x5 x6 x7 x8 x9 k
    obtain ⟨s2, r', ok2, e2⟩ := k03_loop H hl k xs s1 x0 (some x) y3 y4 y5 y6 y7 y8 x9 ok1
    refine ⟨s2, r', ok2, ?_⟩
    show (match exS (P.cn (runF P (k + 20))) lkB [x0, some (.obj l), some x, x3, x4, x5, x6, x7, x8, x9] (M.set l (.lst s.d)) with
      | .nx r M => foldO (.nm 2) (exS (P.cn (runF P (k + 20))) lkB) xs r M
      | .ct r M => foldO (.nm 2) (exS (P.cn (runF P (k + 20))) lkB) xs r M
      | .bk r M => .nx r M
      | o => o) = _
    rw [e]
    exact e2
/-- the last row of the law -/
def lastT : Tr := .shift 2 4 (.shift 0 9 (.word [97]))
theorem last_reads : Reads [108, 97, 116, 101, 40, 50, 47, 52, 44, 108, 97, 116, 101, 40, 48, 47, 57, 44, 97, 41, 41] lastT := by
  refine ⟨by decide, [([108, 97, 116, 101], 0), ([40], 4), ([50], 5), ([47], 6), ([52], 7), ([44], 8), ([108, 97, 116, 101], 9), ([40], 13), ([48], 14), ([47], 15), ([57], 16), ([44], 17), ([97], 18), ([41], 19), ([41], 20)], ?_, ?_⟩
  · rfl
  · rfl
theorem k03_run (H : K03P P) (h43 : P.fn 43 = some ⟨1, 10, lk03⟩) (ns : List Int) (hn : ns.length ≤ 63) (k : Nat) : ∃ M', runF P (k + 21) 43 [.lst (ns.map .int)] [] = .ok (.bl true) M' := by
  have er := random_run H.random (k := k + 19) (M := []) (ns := ns) (salt := 3) (by omega) (by decide)
  have ok : (rndOf 3 ns).ok := rnd_ok (by decide)
  obtain ⟨s', r', ok', e⟩ := k03_loop H (M := [.lst []]) (l := 0) (by decide) k ((List.range 5).map fun i : Nat => D.int (0 + i)) (rndOf 3 ns) (some (.lst (ns.map .int))) none none none none none none none none ok
  have e24 : ∀ M, pcall (P.cn (runF P (k + 20))) 24 [.str [108, 97, 116, 101, 40, 50, 47, 52, 44, 108, 97, 116, 101, 40, 48, 47, 57, 44, 97, 41, 41]] M = .ok (.str lastT.red.text) M := fun M =>
    pcall_run (fp_run H.fmt (n := 2) (by decide) last_reads ⟨by decide, by decide, by decide, by decide, by decide, by decide⟩ (by decide) (by decide) (by decide) (k + 8) []) rfl
  have g25 : (P.cn (runF P (k + 20))).has 25 = true := H.g25
  have g24 : (P.cn (runF P (k + 20))).has 24 = true := H.fmt.g24
  have e25 : (P.cn (runF P (k + 20))).call 25 [.lst (ns.map .int), .int 3] [] = .ok (.obj 0) [.lst (rndOf 3 ns).d] := er
  rw [run_eq h43 rfl]
  generalize P.cn (runF P (k + 20)) = C at e e24 g24 g25 e25
  refine ⟨[.lst s'.d], ?_⟩
  show (exS C lk03 [some (.lst (ns.map .int)), none, none, none, none, none, none, none, none, none] []).res = _
  unfold lk03
  rw [xs_set (x := .obj 0) (M1 := [.lst (rndOf 3 ns).d]) (by
    rw [q_call g25, xa_2 (xe_var rfl) rfl]
    exact e25)]
  show (exS C (.seq (.for_ (.nm 2) (.rng1 (.cI 5)) lkB) _) [some (.lst (ns.map .int)), some (.obj 0), none, none, none, none, none, none, none, none] [.lst (rndOf 3 ns).d]).res = _
  have ef := q_for (C := C) (g := .nm 2) (s := lkB) (r := [some (.lst (ns.map .int)), some (.obj 0), none, none, none, none, none, none, none, none]) (M := [.lst (rndOf 3 ns).d]) (it := .rng1 (.cI 5)) (src := .fix 0 5) rfl rfl
  rw [q_seq, ef, show foldO (.nm 2) (exS C lkB) ((List.range 5).map fun i : Nat => D.int (0 + i)) [some (.lst (ns.map .int)), some (.obj 0), none, none, none, none, none, none, none, none] [.lst (rndOf 3 ns).d] = _ from e]
  show (exS C (.seq (.ret lkE) .nop) r' [.lst s'.d]).res = _
  unfold lkE
  rw [xs_ret (xe_cmp (k := true) (M1 := [.lst s'.d]) (xe_pcall1 g24 rfl rfl (e24 _)) rfl (by
    rw [cop_eqS]
    decide))]
  rfl
end
end Cy
end

section
set_option Elab.async false
set_option linter.all false
set_option maxRecDepth 100000
set_option maxHeartbeats 0
/-! tables of the law, printed by prt.py -/
namespace Tb
open PySem PySem.Spec PyProof.Rows L2 Cy
def top (i : Nat) : Stmt := PySem.Challenge.pw_cyclebeat_k03_canonical_patterns.main.body.getD i (.Pass ⟨0, 0, 0, 0⟩)
def inCls (s : Stmt) (j : Nat) : Stmt := match s with
  | .ClassDef _ _ _ b _ _ _ _ _ _ _ => b.getD j (.Pass ⟨0, 0, 0, 0⟩)
  | _ => .Pass ⟨0, 0, 0, 0⟩
def nms : List (Nat × Str) := [(6, ("greatest_common" : Str)), (7, ("ratio" : Str)), (8, ("token_length" : Str)), (9, ("tokenize" : Str)), (10, ("Parser.__init__" : Str)), (11, ("Parser.peek" : Str)), (12, ("Parser.fail" : Str)), (13, ("Parser.expect" : Str)), (14, ("Parser.take_number" : Str)), (15, ("Parser.take_count" : Str)), (16, ("Parser.parse_pattern" : Str)), (17, ("Parser.parse_unit" : Str)), (18, ("Parser.parse_group" : Str)), (19, ("Parser.parse_call" : Str)), (20, ("bound_events" : Str)), (21, ("reduce_shifts" : Str)), (22, ("load" : Str)), (23, ("format_tree" : Str)), (24, ("format_pattern" : Str)), (25, ("_law_random" : Str)), (27, ("_law_text" : Str)), (28, ("_law_below" : Str)), (29, ("_law_common" : Str)), (30, ("_law_ratio" : Str)), (31, ("_law_tree" : Str))] ++
  [(32, ("_law_weight" : Str)), (33, ("_law_units" : Str)), (34, ("_law_bound" : Str)), (35, ("_law_pattern" : Str)), (43, ("law" : Str)), (45, ("count_units" : Str)), (46, ("measure" : Str)), (47, ("_law_equal" : Str)), (159, ("SyntaxFault" : Str)), (160, ("CheckFault" : Str)), (172, ("LETTERS" : Str)), (173, ("DIGITS" : Str)), (174, ("SYMBOLS" : Str)), (175, ("KEYWORDS" : Str)), (176, ("MAX_LETTERS" : Str)), (177, ("MAX_DIGITS" : Str)), (178, ("MAX_NUMBER" : Str)), (179, ("MAX_DENOMINATOR" : Str)), (180, ("MAX_DEPTH" : Str)), (181, ("MAX_UNITS" : Str)), (182, ("MAX_EVENTS" : Str)), (183, ("Parser" : Str)), (184, ("peek" : Str)), (185, ("fail" : Str)), (186, ("expect" : Str))] ++
  [(187, ("take_number" : Str)), (188, ("take_count" : Str)), (189, ("parse_pattern" : Str)), (190, ("parse_unit" : Str)), (191, ("parse_group" : Str)), (192, ("parse_call" : Str)), (193, ("BRACKETS" : Str)), (196, ("tokens" : Str)), (197, ("at" : Str)), (198, ("units" : Str)), (199, ("faults" : Str))]
/-- greatest_common -/
def b6 : Cy.St := (.seq (.whl 1000000 (.cmp .gt (.var 1) (.cI 0))
      (.seq (.par [0, 1] (.cons (.var 1) (.cons (.bin .mod (.var 0) (.var 1)) .nil)))
      .nop))
      (.seq (.ret (.var 0))
      .nop))
def d6 : He.DefD := ⟨(("greatest_common" : Str), none), "greatest_common", "greatest_common", defArgs (top 5), defBody (top 5), defScope (top 5), [], []⟩
def f6 : FD := ⟨d6, ⟨2, 2, b6⟩, [("one" : Str), ("other" : Str)], [("one" : Str), ("other" : Str)]⟩
/-- ratio -/
def b7 : Cy.St := (.seq (.set (.nm 2) (.pcall 6 (.cons (.bi .abs (.cons (.var 0) .nil)) (.cons (.var 1) .nil))))
      (.seq (.ret (.tup (.cons (.bin .fdiv (.var 0) (.var 2)) (.cons (.bin .fdiv (.var 1) (.var 2)) .nil))))
      .nop))
def d7 : He.DefD := ⟨(("ratio" : Str), none), "ratio", "ratio", defArgs (top 6), defBody (top 6), defScope (top 6), [], []⟩
def f7 : FD := ⟨d7, ⟨2, 3, b7⟩, [("numerator" : Str), ("denominator" : Str), ("divisor" : Str)], [("numerator" : Str), ("denominator" : Str)]⟩
/-- token_length -/
def b8 : Cy.St := (.seq (.set (.nm 2) (.idx (.var 0) (.var 1)))
      (.seq (.ite (.cmp .inn (.var 2) (.gl 174))
      (.seq (.ret (.cI 1))
      .nop)
      .nop)
      (.seq (.set (.nm 3) (.ite (.cmp .inn (.var 2) (.gl 172)) (.gl 172) (.gl 173)))
      (.seq (.set (.nm 4) (.cI 0))
      (.seq (.whl 1000000 (.and (.cmp .lt (.bin .add (.var 1) (.var 4)) (.bi .len (.cons (.var 0) .nil))) (.cmp .inn (.idx (.var 0) (.bin .add (.var 1) (.var 4))) (.var 3)))
      (.seq (.aug .add 4 (.cI 1))
      .nop))
      (.seq (.ite (.cmp .gt (.var 4) (.ite (.cmp .inn (.var 2) (.gl 172)) (.gl 176) (.gl 177)))
      (.seq (.ret (.cI 0))
      .nop)
      .nop)
      (.seq (.ret (.ite (.and (.cmp .gt (.var 4) (.cI 1)) (.cmp .eq (.var 2) (.cS [48]))) (.cI 0) (.var 4)))
      .nop)))))))
def d8 : He.DefD := ⟨(("token_length" : Str), none), "token_length", "token_length", defArgs (top 19), defBody (top 19), defScope (top 19), [], []⟩
def f8 : FD := ⟨d8, ⟨2, 5, b8⟩, [("text" : Str), ("place" : Str), ("first" : Str), ("signs" : Str), ("length" : Str)], [("text" : Str), ("place" : Str)]⟩
/-- tokenize -/
def b9 : Cy.St := (.seq (.par [1, 2] (.cons (.lst true .nil) (.cons (.cI 0) .nil)))
      (.seq (.whl 1000000 (.cmp .lt (.var 2) (.bi .len (.cons (.var 0) .nil)))
      (.seq (.ite (.cmp .eq (.idx (.var 0) (.var 2)) (.cS [32]))
      (.seq (.aug .add 2 (.cI 1))
      .nop)
      (.seq (.set (.nm 3) (.pcall 8 (.cons (.var 0) (.cons (.var 2) .nil))))
      (.seq (.ite (.cmp .eq (.var 3) (.cI 0))
      (.seq (.rse 159 (.cons (.var 2) .nil))
      .nop)
      .nop)
      (.seq (.exp (.bm .append (.var 1) (.cons (.tup (.cons (.sl false (.var 0) (.cons (.var 2) .nil) (.cons (.bin .add (.var 2) (.var 3)) .nil)) (.cons (.var 2) .nil))) .nil)))
      (.seq (.aug .add 2 (.var 3))
      .nop)))))
      .nop))
      (.seq (.ret (.bin .add (.var 1) (.lst false (.cons (.tup (.cons (.cS []) (.cons (.bi .len (.cons (.var 0) .nil)) .nil))) .nil))))
      .nop)))
def d9 : He.DefD := ⟨(("tokenize" : Str), none), "tokenize", "tokenize", defArgs (top 20), defBody (top 20), defScope (top 20), [], []⟩
def f9 : FD := ⟨d9, ⟨1, 4, b9⟩, [("text" : Str), ("tokens" : Str), ("place" : Str), ("length" : Str)], [("text" : Str)]⟩
/-- Parser.__init__ -/
def b10 : Cy.St := (.seq (.fld 196 (.var 0) (.pcall 9 (.cons (.var 1) .nil)))
      (.seq (.fld 197 (.var 0) (.cI 0))
      (.seq (.fld 198 (.var 0) (.cI 0))
      (.seq (.fld 199 (.var 0) (.lst true .nil))
      .nop))))
def d10 : He.DefD := ⟨(("Parser" : Str), some ("__init__" : Str)), "__init__", "Parser.__init__", defArgs (inCls (top 21) 0), defBody (inCls (top 21) 0), defScope (inCls (top 21) 0), [], []⟩
def f10 : FD := ⟨d10, ⟨2, 2, b10⟩, [("self" : Str), ("text" : Str)], [("self" : Str), ("text" : Str)]⟩
/-- Parser.peek -/
def b11 : Cy.St := (.seq (.ret (.idx (.idx (.fld 196 (.var 0)) (.fld 197 (.var 0))) (.cI 0)))
      .nop)
def d11 : He.DefD := ⟨(("Parser" : Str), some ("peek" : Str)), "peek", "Parser.peek", defArgs (inCls (top 21) 1), defBody (inCls (top 21) 1), defScope (inCls (top 21) 1), [], []⟩
def f11 : FD := ⟨d11, ⟨1, 1, b11⟩, [("self" : Str)], [("self" : Str)]⟩
/-- Parser.fail -/
def b12 : Cy.St := (.seq (.rse 159 (.cons (.idx (.idx (.fld 196 (.var 0)) (.fld 197 (.var 0))) (.cI 1)) .nil))
      .nop)
def d12 : He.DefD := ⟨(("Parser" : Str), some ("fail" : Str)), "fail", "Parser.fail", defArgs (inCls (top 21) 2), defBody (inCls (top 21) 2), defScope (inCls (top 21) 2), [], []⟩
def f12 : FD := ⟨d12, ⟨1, 1, b12⟩, [("self" : Str)], [("self" : Str)]⟩
/-- Parser.expect -/
def b13 : Cy.St := (.seq (.ite (.cmp .ne (.meth 183 184 (.var 0) .nil) (.var 1))
      (.seq (.exp (.meth 183 185 (.var 0) .nil))
      .nop)
      .nop)
      (.seq (.fldA .add 197 (.var 0) (.cI 1))
      .nop))
def d13 : He.DefD := ⟨(("Parser" : Str), some ("expect" : Str)), "expect", "Parser.expect", defArgs (inCls (top 21) 3), defBody (inCls (top 21) 3), defScope (inCls (top 21) 3), [], []⟩
def f13 : FD := ⟨d13, ⟨2, 2, b13⟩, [("self" : Str), ("text" : Str)], [("self" : Str), ("text" : Str)]⟩
/-- Parser.take_number -/
def b14 : Cy.St := (.seq (.ite (.or (.cmp .eq (.meth 183 184 (.var 0) .nil) (.cS [])) (.cmp .nin (.idx (.meth 183 184 (.var 0) .nil) (.cI 0)) (.gl 173)))
      (.seq (.exp (.meth 183 185 (.var 0) .nil))
      .nop)
      .nop)
      (.seq (.fldA .add 197 (.var 0) (.cI 1))
      (.seq (.ret (.tup (.cons (.bi .int (.cons (.idx (.idx (.fld 196 (.var 0)) (.bin .sub (.fld 197 (.var 0)) (.cI 1))) (.cI 0)) .nil)) (.cons (.idx (.idx (.fld 196 (.var 0)) (.bin .sub (.fld 197 (.var 0)) (.cI 1))) (.cI 1)) .nil))))
      .nop)))
def d14 : He.DefD := ⟨(("Parser" : Str), some ("take_number" : Str)), "take_number", "Parser.take_number", defArgs (inCls (top 21) 4), defBody (inCls (top 21) 4), defScope (inCls (top 21) 4), [], []⟩
def f14 : FD := ⟨d14, ⟨1, 1, b14⟩, [("self" : Str)], [("self" : Str)]⟩
/-- Parser.take_count -/
def b15 : Cy.St := (.seq (.set (.tp [1, 2]) (.meth 183 187 (.var 0) .nil))
      (.seq (.ite (.not (.ch2 .le .le (.cI 1) (.var 1) (.gl 178)))
      (.seq (.exp (.bm .append (.fld 199 (.var 0)) (.cons (.tup (.cons (.var 2) (.cons (.cI 2) (.cons (.cS [110, 117, 109, 98, 101, 114]) .nil)))) .nil)))
      .nop)
      .nop)
      (.seq (.ret (.var 1))
      .nop)))
def d15 : He.DefD := ⟨(("Parser" : Str), some ("take_count" : Str)), "take_count", "Parser.take_count", defArgs (inCls (top 21) 5), defBody (inCls (top 21) 5), defScope (inCls (top 21) 5), [], []⟩
def f15 : FD := ⟨d15, ⟨1, 3, b15⟩, [("self" : Str), ("value" : Str), ("place" : Str)], [("self" : Str)]⟩
/-- Parser.parse_pattern -/
def b16 : Cy.St := (.seq (.set (.nm 2) (.meth 183 190 (.var 0) (.cons (.var 1) .nil)))
      (.seq (.whl 1000000 (.or (.cmp .eq (.meth 183 184 (.var 0) .nil) (.cS [94])) (.cmp .eq (.meth 183 184 (.var 0) .nil) (.cS [58])))
      (.seq (.set (.nm 3) (.ite (.cmp .eq (.meth 183 184 (.var 0) .nil) (.cS [94])) (.cS [102, 97, 115, 116]) (.cS [115, 108, 111, 119])))
      (.seq (.fldA .add 197 (.var 0) (.cI 1))
      (.seq (.set (.nm 2) (.tup (.cons (.var 3) (.cons (.meth 183 188 (.var 0) .nil) (.cons (.tup (.cons (.var 2) .nil)) .nil)))))
      .nop))))
      (.seq (.ret (.var 2))
      .nop)))
def d16 : He.DefD := ⟨(("Parser" : Str), some ("parse_pattern" : Str)), "parse_pattern", "Parser.parse_pattern", defArgs (inCls (top 21) 6), defBody (inCls (top 21) 6), defScope (inCls (top 21) 6), [], []⟩
def f16 : FD := ⟨d16, ⟨2, 4, b16⟩, [("self" : Str), ("depth" : Str), ("tree" : Str), ("kind" : Str)], [("self" : Str), ("depth" : Str)]⟩
/-- Parser.parse_unit -/
def b17 : Cy.St := (.seq (.set (.tp [2, 3]) (.idx (.fld 196 (.var 0)) (.fld 197 (.var 0))))
      (.seq (.ite (.or (.cmp .eq (.var 2) (.cS [])) (.or (.cmp .inn (.idx (.var 2) (.cI 0)) (.gl 173)) (.cmp .inn (.var 2) (.tup (.cons (.cS [41]) (.cons (.cS [93]) (.cons (.cS [125]) (.cons (.cS [43]) (.cons (.cS [94]) (.cons (.cS [58]) (.cons (.cS [47]) (.cons (.cS [44]) .nil))))))))))))
      (.seq (.exp (.meth 183 185 (.var 0) .nil))
      .nop)
      .nop)
      (.seq (.fldA .add 197 (.var 0) (.cI 1))
      (.seq (.fldA .add 198 (.var 0) (.cI 1))
      (.seq (.ite (.cmp .eq (.fld 198 (.var 0)) (.bin .add (.gl 181) (.cI 1)))
      (.seq (.exp (.bm .append (.fld 199 (.var 0)) (.cons (.tup (.cons (.var 3) (.cons (.cI 0) (.cons (.cS [115, 105, 122, 101]) .nil)))) .nil)))
      .nop)
      .nop)
      (.seq (.ite (.cmp .gt (.var 1) (.gl 180))
      (.seq (.exp (.bm .append (.fld 199 (.var 0)) (.cons (.tup (.cons (.var 3) (.cons (.cI 1) (.cons (.cS [100, 101, 112, 116, 104]) .nil)))) .nil)))
      .nop)
      .nop)
      (.seq (.ite (.cmp .eq (.var 2) (.cS [95]))
      (.seq (.ret (.tup (.cons (.cS [114, 101, 115, 116]) (.cons .cN (.cons (.tup .nil) .nil)))))
      .nop)
      .nop)
      (.seq (.ite (.cmp .inn (.var 2) (.gl 175))
      (.seq (.ret (.meth 183 192 (.var 0) (.cons (.var 2) (.cons (.var 1) .nil))))
      .nop)
      .nop)
      (.seq (.ite (.cmp .inn (.idx (.var 2) (.cI 0)) (.gl 172))
      (.seq (.ret (.tup (.cons (.cS [119, 111, 114, 100]) (.cons (.var 2) (.cons (.tup .nil) .nil)))))
      .nop)
      .nop)
      (.seq (.ret (.meth 183 191 (.var 0) (.cons (.var 2) (.cons (.var 1) .nil))))
      .nop))))))))))
def d17 : He.DefD := ⟨(("Parser" : Str), some ("parse_unit" : Str)), "parse_unit", "Parser.parse_unit", defArgs (inCls (top 21) 7), defBody (inCls (top 21) 7), defScope (inCls (top 21) 7), [], []⟩
def f17 : FD := ⟨d17, ⟨2, 4, b17⟩, [("self" : Str), ("depth" : Str), ("text" : Str), ("place" : Str)], [("self" : Str), ("depth" : Str)]⟩
/-- Parser.parse_group -/
def b18 : Cy.St := (.seq (.set (.nm 3) (.dsp [[40], [91], [123]] (.cons (.tup (.cons (.cS [114, 111, 119]) (.cons (.cS [41]) .nil))) (.cons (.tup (.cons (.cS [108, 97, 121, 101, 114, 115]) (.cons (.cS [93]) .nil))) (.cons (.tup (.cons (.cS [116, 117, 114, 110, 115]) (.cons (.cS [125]) .nil))) .nil)))))
      (.seq (.set (.tp [5, 6]) (.idx (.var 3) (.var 1)))
      (.seq (.set (.nm 4) (.lst true (.cons (.meth 183 189 (.var 0) (.cons (.bin .add (.var 2) (.cI 1)) .nil)) .nil)))
      (.seq (.whl 1000000 (.cmp .ne (.meth 183 184 (.var 0) .nil) (.var 6))
      (.seq (.ite (.cmp .eq (.var 5) (.cS [108, 97, 121, 101, 114, 115]))
      (.seq (.exp (.meth 183 186 (.var 0) (.cons (.cS [43]) .nil)))
      .nop)
      .nop)
      (.seq (.exp (.bm .append (.var 4) (.cons (.meth 183 189 (.var 0) (.cons (.bin .add (.var 2) (.cI 1)) .nil)) .nil)))
      .nop)))
      (.seq (.fldA .add 197 (.var 0) (.cI 1))
      (.seq (.ret (.tup (.cons (.var 5) (.cons .cN (.cons (.bi .tuple (.cons (.var 4) .nil)) .nil)))))
      .nop))))))
def d18 : He.DefD := ⟨(("Parser" : Str), some ("parse_group" : Str)), "parse_group", "Parser.parse_group", defArgs (inCls (top 21) 8), defBody (inCls (top 21) 8), defScope (inCls (top 21) 8), [], []⟩
def f18 : FD := ⟨d18, ⟨3, 7, b18⟩, [("self" : Str), ("opening" : Str), ("depth" : Str), ("kinds" : Str), ("items" : Str), ("kind" : Str), ("closing" : Str)], [("self" : Str), ("opening" : Str), ("depth" : Str)]⟩
/-- Parser.parse_call -/
def b19 : Cy.St := (.seq (.exp (.meth 183 186 (.var 0) (.cons (.cS [40]) .nil)))
      (.seq (.par [3, 4] (.cons .cN (.cons (.lst true .nil) .nil)))
      (.seq (.ite (.cmp .eq (.var 1) (.cS [108, 97, 116, 101]))
      (.seq (.set (.tp [6, 7]) (.meth 183 187 (.var 0) .nil))
      (.seq (.exp (.meth 183 186 (.var 0) (.cons (.cS [47]) .nil)))
      (.seq (.set (.nm 5) (.idx (.meth 183 187 (.var 0) .nil) (.cI 0)))
      (.seq (.ite (.not (.ch3 .le .lt .le (.cI 0) (.var 6) (.var 5) (.gl 179)))
      (.seq (.exp (.bm .append (.fld 199 (.var 0)) (.cons (.tup (.cons (.var 7) (.cons (.cI 2) (.cons (.cS [110, 117, 109, 98, 101, 114]) .nil)))) .nil)))
      .nop)
      .nop)
      (.seq (.set (.nm 3) (.tup (.cons (.var 6) (.cons (.var 5) .nil))))
      (.seq (.exp (.meth 183 186 (.var 0) (.cons (.cS [44]) .nil)))
      .nop))))))
      .nop)
      (.seq (.ite (.cmp .eq (.var 1) (.cS [101, 97, 99, 104]))
      (.seq (.set (.nm 3) (.meth 183 188 (.var 0) .nil))
      (.seq (.exp (.meth 183 186 (.var 0) (.cons (.cS [44]) .nil)))
      (.seq (.exp (.bm .append (.var 4) (.cons (.meth 183 189 (.var 0) (.cons (.bin .add (.var 2) (.cI 1)) .nil)) .nil)))
      (.seq (.exp (.meth 183 186 (.var 0) (.cons (.cS [44]) .nil)))
      .nop))))
      .nop)
      (.seq (.exp (.bm .append (.var 4) (.cons (.meth 183 189 (.var 0) (.cons (.bin .add (.var 2) (.cI 1)) .nil)) .nil)))
      (.seq (.exp (.meth 183 186 (.var 0) (.cons (.cS [41]) .nil)))
      (.seq (.ret (.tup (.cons (.var 1) (.cons (.var 3) (.cons (.bi .tuple (.cons (.var 4) .nil)) .nil)))))
      .nop)))))))
def d19 : He.DefD := ⟨(("Parser" : Str), some ("parse_call" : Str)), "parse_call", "Parser.parse_call", defArgs (inCls (top 21) 9), defBody (inCls (top 21) 9), defScope (inCls (top 21) 9), [], []⟩
def f19 : FD := ⟨d19, ⟨3, 8, b19⟩, [("self" : Str), ("keyword" : Str), ("depth" : Str), ("value" : Str), ("items" : Str), ("denominator" : Str), ("numerator" : Str), ("place" : Str)], [("self" : Str), ("keyword" : Str), ("depth" : Str)]⟩
/-- bound_events -/
def b20 : Cy.St := (.seq (.set (.tp [2, 3, 4]) (.var 0))
      (.seq (.set (.nm 1) (.comp false (.nm 5) (.src (.var 4)) (.cB true) (.pcall 20 (.cons (.var 5) .nil))))
      (.seq (.ite (.cmp .inn (.var 2) (.tup (.cons (.cS [119, 111, 114, 100]) (.cons (.cS [114, 101, 115, 116]) .nil))))
      (.seq (.ret (.cI 1))
      .nop)
      .nop)
      (.seq (.ite (.cmp .inn (.var 2) (.tup (.cons (.cS [114, 111, 119]) (.cons (.cS [108, 97, 121, 101, 114, 115]) .nil))))
      (.seq (.ret (.bi .sum (.cons (.var 1) .nil)))
      .nop)
      .nop)
      (.seq (.ite (.cmp .eq (.var 2) (.cS [102, 97, 115, 116]))
      (.seq (.ret (.bin .mul (.var 3) (.idx (.var 1) (.cI 0))))
      .nop)
      .nop)
      (.seq (.ret (.bi .max (.cons (.var 1) .nil)))
      .nop))))))
def d20 : He.DefD := ⟨(("bound_events" : Str), none), "bound_events", "bound_events", defArgs (top 22), defBody (top 22), defScope (top 22), [], []⟩
def f20 : FD := ⟨d20, ⟨1, 6, b20⟩, [("tree" : Str), ("bounds" : Str), ("kind" : Str), ("value" : Str), ("items" : Str), ("item" : Str)], [("tree" : Str)]⟩
/-- reduce_shifts -/
def b21 : Cy.St := (.seq (.set (.tp [2, 3, 4]) (.var 0))
      (.seq (.set (.nm 1) (.bi .tuple (.cons (.comp false (.nm 5) (.src (.var 4)) (.cB true) (.pcall 21 (.cons (.var 5) .nil))) .nil)))
      (.seq (.ret (.tup (.cons (.var 2) (.cons (.ite (.cmp .eq (.var 2) (.cS [108, 97, 116, 101])) (.pcall 7 (.cons (.idx (.var 3) (.cI 0)) (.cons (.idx (.var 3) (.cI 1)) .nil))) (.var 3)) (.cons (.var 1) .nil)))))
      .nop)))
def d21 : He.DefD := ⟨(("reduce_shifts" : Str), none), "reduce_shifts", "reduce_shifts", defArgs (top 23), defBody (top 23), defScope (top 23), [], []⟩
def f21 : FD := ⟨d21, ⟨1, 6, b21⟩, [("tree" : Str), ("reduced" : Str), ("kind" : Str), ("value" : Str), ("items" : Str), ("item" : Str)], [("tree" : Str)]⟩
/-- load -/
def b22 : Cy.St := (.seq (.set (.nm 1) (.mk 183 (.cons (.var 0) .nil)))
      (.seq (.set (.nm 2) (.meth 183 189 (.var 1) (.cons (.cI 1) .nil)))
      (.seq (.ite (.cmp .ne (.meth 183 184 (.var 1) .nil) (.cS []))
      (.seq (.exp (.meth 183 185 (.var 1) .nil))
      .nop)
      .nop)
      (.seq (.ite (.cmp .ne (.fld 199 (.var 1)) (.lst false .nil))
      (.seq (.set (.tp [3, 4, 5]) (.bi .min (.cons (.fld 199 (.var 1)) .nil)))
      (.seq (.rse 160 (.cons (.var 5) (.cons (.var 3) .nil)))
      .nop))
      .nop)
      (.seq (.ite (.cmp .gt (.pcall 20 (.cons (.var 2) .nil)) (.gl 182))
      (.seq (.rse 160 (.cons (.cS [101, 118, 101, 110, 116, 115]) (.cons (.cI 0) .nil)))
      .nop)
      .nop)
      (.seq (.ret (.pcall 21 (.cons (.var 2) .nil)))
      .nop))))))
def d22 : He.DefD := ⟨(("load" : Str), none), "load", "load", defArgs (top 24), defBody (top 24), defScope (top 24), [], []⟩
def f22 : FD := ⟨d22, ⟨1, 6, b22⟩, [("text" : Str), ("parser" : Str), ("tree" : Str), ("place" : Str), ("order" : Str), ("reason" : Str)], [("text" : Str)]⟩
/-- format_tree -/
def b23 : Cy.St := (.seq (.set (.tp [2, 3, 4]) (.var 0))
      (.seq (.set (.nm 1) (.comp false (.nm 6) (.src (.var 4)) (.cB true) (.pcall 23 (.cons (.var 6) .nil))))
      (.seq (.ite (.cmp .eq (.var 2) (.cS [119, 111, 114, 100]))
      (.seq (.ret (.var 3))
      .nop)
      .nop)
      (.seq (.ite (.cmp .eq (.var 2) (.cS [114, 101, 115, 116]))
      (.seq (.ret (.cS [95]))
      .nop)
      .nop)
      (.seq (.ite (.cmp .inn (.var 2) (.gl 193))
      (.seq (.set (.nm 5) (.ite (.cmp .eq (.var 2) (.cS [108, 97, 121, 101, 114, 115])) (.cS [32, 43, 32]) (.cS [32])))
      (.seq (.ret (.bin .add (.bin .add (.idx (.idx (.gl 193) (.var 2)) (.cI 0)) (.bm .join (.var 5) (.cons (.var 1) .nil))) (.idx (.idx (.gl 193) (.var 2)) (.cI 1))))
      .nop))
      .nop)
      (.seq (.ite (.cmp .inn (.var 2) (.tup (.cons (.cS [102, 97, 115, 116]) (.cons (.cS [115, 108, 111, 119]) .nil))))
      (.seq (.ret (.bin .add (.bin .add (.idx (.var 1) (.cI 0)) (.ite (.cmp .eq (.var 2) (.cS [102, 97, 115, 116])) (.cS [94]) (.cS [58]))) (.bi .str (.cons (.var 3) .nil))))
      .nop)
      .nop)
      (.seq (.ite (.cmp .eq (.var 2) (.cS [108, 97, 116, 101]))
      (.seq (.ret (.bin .add (.bin .add (.bin .add (.bin .add (.bin .add (.bin .add (.cS [108, 97, 116, 101, 40]) (.bi .str (.cons (.idx (.var 3) (.cI 0)) .nil))) (.cS [47])) (.bi .str (.cons (.idx (.var 3) (.cI 1)) .nil))) (.cS [44, 32])) (.idx (.var 1) (.cI 0))) (.cS [41])))
      .nop)
      .nop)
      (.seq (.ite (.cmp .eq (.var 2) (.cS [101, 97, 99, 104]))
      (.seq (.ret (.bin .add (.bin .add (.bin .add (.bin .add (.bin .add (.bin .add (.cS [101, 97, 99, 104, 40]) (.bi .str (.cons (.var 3) .nil))) (.cS [44, 32])) (.idx (.var 1) (.cI 0))) (.cS [44, 32])) (.idx (.var 1) (.cI 1))) (.cS [41])))
      .nop)
      .nop)
      (.seq (.ret (.bin .add (.bin .add (.cS [109, 105, 114, 114, 111, 114, 40]) (.idx (.var 1) (.cI 0))) (.cS [41])))
      .nop)))))))))
def d23 : He.DefD := ⟨(("format_tree" : Str), none), "format_tree", "format_tree", defArgs (top 27), defBody (top 27), defScope (top 27), [], []⟩
def f23 : FD := ⟨d23, ⟨1, 7, b23⟩, [("tree" : Str), ("texts" : Str), ("kind" : Str), ("value" : Str), ("items" : Str), ("separator" : Str), ("item" : Str)], [("tree" : Str)]⟩
/-- format_pattern -/
def b24 : Cy.St := (.seq (.ret (.pcall 23 (.cons (.pcall 22 (.cons (.var 0) .nil)) .nil)))
      .nop)
def d24 : He.DefD := ⟨(("format_pattern" : Str), none), "format_pattern", "format_pattern", defArgs (top 28), defBody (top 28), defScope (top 28), [], []⟩
def f24 : FD := ⟨d24, ⟨1, 1, b24⟩, [("pattern" : Str)], [("pattern" : Str)]⟩
/-- count_units -/
def b45 : Cy.St := (.seq (.set (.nm 1) (.ite (.cmp .inn (.idx (.var 0) (.cI 0)) (.tup (.cons (.cS [102, 97, 115, 116]) (.cons (.cS [115, 108, 111, 119]) .nil)))) (.cI 0) (.cI 1)))
      (.seq (.ret (.bin .add (.var 1) (.bi .sum (.cons (.comp false (.nm 2) (.src (.idx (.var 0) (.cI 2))) (.cB true) (.pcall 45 (.cons (.var 2) .nil))) .nil))))
      .nop))
def d45 : He.DefD := ⟨(("count_units" : Str), none), "count_units", "count_units", defArgs (top 29), defBody (top 29), defScope (top 29), [], []⟩
def f45 : FD := ⟨d45, ⟨1, 3, b45⟩, [("tree" : Str), ("own" : Str), ("item" : Str)], [("tree" : Str)]⟩
/-- measure -/
def b46 : Cy.St := (.seq (.ret (.pcall 45 (.cons (.pcall 22 (.cons (.var 0) .nil)) .nil)))
      .nop)
def d46 : He.DefD := ⟨(("measure" : Str), none), "measure", "measure", defArgs (top 30), defBody (top 30), defScope (top 30), [], []⟩
def f46 : FD := ⟨d46, ⟨1, 1, b46⟩, [("pattern" : Str)], [("pattern" : Str)]⟩
/-- _law_random -/
def b25 : Cy.St := (.seq (.set (.nm 2) (.var 1))
      (.seq (.for_ (.nm 3) (.src (.var 0))
      (.seq (.set (.nm 2) (.bin .mod (.bin .add (.bin .mul (.var 2) (.cI 31)) (.bi .abs (.cons (.var 3) .nil))) (.cI 2147483647)))
      .nop))
      (.seq (.ret (.bin .addL (.lst false (.cons (.var 2) (.cons (.cI 0) .nil))) (.comp false (.nm 3) (.src (.var 0)) (.cmp .ge (.var 3) (.bin .pow (.cI 10) (.cI 18))) (.var 3))))
      .nop)))
def d25 : He.DefD := ⟨(("_law_random" : Str), none), "_law_random", "_law_random", defArgs (top 32), defBody (top 32), defScope (top 32), [], []⟩
def f25 : FD := ⟨d25, ⟨2, 4, b25⟩, [("_law_script" : Str), ("_law_salt" : Str), ("_law_seed" : Str), ("_law_cell" : Str)], [("_law_script" : Str), ("_law_salt" : Str)]⟩
/-- _law_below -/
def b28 : Cy.St := (.seq (.ite (.and (.cmp .eq (.idx (.var 0) (.cI 1)) (.cI 0)) (.cmp .gt (.bi .len (.cons (.var 0) .nil)) (.cI 2)))
      (.seq (.put (.var 0) (.cI 1) (.bm .pop (.var 0) (.cons (.cI 2) .nil)))
      .nop)
      .nop)
      (.seq (.ite (.cmp .gt (.idx (.var 0) (.cI 1)) (.cI 0))
      (.seq (.set (.nm 2) (.bin .mod (.idx (.var 0) (.cI 1)) (.var 1)))
      (.seq (.put (.var 0) (.cI 1) (.bin .fdiv (.idx (.var 0) (.cI 1)) (.var 1)))
      (.seq (.ret (.var 2))
      .nop)))
      .nop)
      (.seq (.put (.var 0) (.cI 0) (.bin .mod (.bin .add (.bin .mul (.idx (.var 0) (.cI 0)) (.cI 48271)) (.cI 11)) (.cI 2147483647)))
      (.seq (.ret (.bin .mod (.bin .fdiv (.idx (.var 0) (.cI 0)) (.cI 64)) (.var 1)))
      .nop))))
def d28 : He.DefD := ⟨(("_law_below" : Str), none), "_law_below", "_law_below", defArgs (top 33), defBody (top 33), defScope (top 33), [], []⟩
def f28 : FD := ⟨d28, ⟨2, 3, b28⟩, [("_law_d" : Str), ("_law_limit" : Str), ("_law_result" : Str)], [("_law_d" : Str), ("_law_limit" : Str)]⟩
/-- _law_common -/
def b29 : Cy.St := (.seq (.whl 1000000 (.cmp .gt (.var 1) (.cI 0))
      (.seq (.par [0, 1] (.cons (.var 1) (.cons (.bin .mod (.var 0) (.var 1)) .nil)))
      .nop))
      (.seq (.ret (.var 0))
      .nop))
def d29 : He.DefD := ⟨(("_law_common" : Str), none), "_law_common", "_law_common", defArgs (top 34), defBody (top 34), defScope (top 34), [], []⟩
def f29 : FD := ⟨d29, ⟨2, 2, b29⟩, [("_law_one" : Str), ("_law_other" : Str)], [("_law_one" : Str), ("_law_other" : Str)]⟩
/-- _law_ratio -/
def b30 : Cy.St := (.seq (.set (.nm 2) (.pcall 29 (.cons (.bi .abs (.cons (.var 0) .nil)) (.cons (.var 1) .nil))))
      (.seq (.ret (.tup (.cons (.bin .fdiv (.var 0) (.var 2)) (.cons (.bin .fdiv (.var 1) (.var 2)) .nil))))
      .nop))
def d30 : He.DefD := ⟨(("_law_ratio" : Str), none), "_law_ratio", "_law_ratio", defArgs (top 35), defBody (top 35), defScope (top 35), [], []⟩
def f30 : FD := ⟨d30, ⟨2, 3, b30⟩, [("_law_numerator" : Str), ("_law_denominator" : Str), ("_law_common_here" : Str)], [("_law_numerator" : Str), ("_law_denominator" : Str)]⟩
/-- _law_tree -/
def b31 : Cy.St := (.seq (.set (.nm 2) (.ite (.cmp .gt (.var 1) (.cI 0)) (.call 28 (.cons (.var 0) (.cons (.cI 12) .nil))) (.call 28 (.cons (.var 0) (.cons (.cI 3) .nil)))))
      (.seq (.ite (.cmp .lt (.var 2) (.cI 2))
      (.seq (.ret (.tup (.cons (.cS [119, 111, 114, 100]) (.cons (.idx (.lst false (.cons (.cS [97]) (.cons (.cS [98]) (.cons (.cS [99]) (.cons (.cS [108, 111, 110, 103, 119, 111, 114, 100]) .nil))))) (.call 28 (.cons (.var 0) (.cons (.cI 4) .nil)))) (.cons (.lst false .nil) .nil)))))
      .nop)
      .nop)
      (.seq (.ite (.cmp .eq (.var 2) (.cI 2))
      (.seq (.ret (.tup (.cons (.cS [114, 101, 115, 116]) (.cons (.cI 0) (.cons (.lst false .nil) .nil)))))
      .nop)
      .nop)
      (.seq (.ite (.cmp .lt (.var 2) (.cI 8))
      (.seq (.set (.nm 3) (.idx (.lst false (.cons (.cS [114, 111, 119]) (.cons (.cS [114, 111, 119]) (.cons (.cS [108, 97, 121, 101, 114, 115]) (.cons (.cS [116, 117, 114, 110, 115]) (.cons (.cS [116, 117, 114, 110, 115]) .nil)))))) (.bin .sub (.var 2) (.cI 3))))
      (.seq (.set (.nm 4) (.bin .add (.cI 1) (.call 28 (.cons (.var 0) (.cons (.ite (.cmp .eq (.var 3) (.cS [116, 117, 114, 110, 115])) (.cI 5) (.cI 3)) .nil)))))
      (.seq (.ret (.tup (.cons (.var 3) (.cons (.cI 0) (.cons (.comp false (.nm 7) (.rng1 (.var 4)) (.cB true) (.call 31 (.cons (.var 0) (.cons (.bin .sub (.var 1) (.cI 1)) .nil)))) .nil)))))
      .nop)))
      .nop)
      (.seq (.ite (.cmp .eq (.var 2) (.cI 8))
      (.seq (.set (.nm 5) (.bin .add (.cI 1) (.call 28 (.cons (.var 0) (.cons (.idx (.lst false (.cons (.cI 3) (.cons (.cI 6) .nil))) (.call 28 (.cons (.var 0) (.cons (.cI 2) .nil)))) .nil)))))
      (.seq (.ret (.tup (.cons (.idx (.lst false (.cons (.cS [102, 97, 115, 116]) (.cons (.cS [115, 108, 111, 119]) .nil))) (.call 28 (.cons (.var 0) (.cons (.cI 2) .nil)))) (.cons (.var 5) (.cons (.lst false (.cons (.call 31 (.cons (.var 0) (.cons (.bin .sub (.var 1) (.cI 1)) .nil))) .nil)) .nil)))))
      .nop))
      .nop)
      (.seq (.ite (.cmp .eq (.var 2) (.cI 9))
      (.seq (.set (.nm 6) (.idx (.lst false (.cons (.cI 1) (.cons (.cI 2) (.cons (.cI 3) (.cons (.cI 4) (.cons (.cI 8) (.cons (.cI 60) .nil))))))) (.call 28 (.cons (.var 0) (.cons (.cI 6) .nil)))))
      (.seq (.ret (.tup (.cons (.cS [115, 104, 105, 102, 116]) (.cons (.pcall 30 (.cons (.call 28 (.cons (.var 0) (.cons (.var 6) .nil))) (.cons (.var 6) .nil))) (.cons (.lst false (.cons (.call 31 (.cons (.var 0) (.cons (.bin .sub (.var 1) (.cI 1)) .nil))) .nil)) .nil)))))
      .nop))
      .nop)
      (.seq (.ite (.cmp .eq (.var 2) (.cI 10))
      (.seq (.ret (.tup (.cons (.cS [114, 101, 118]) (.cons (.cI 0) (.cons (.lst false (.cons (.call 31 (.cons (.var 0) (.cons (.bin .sub (.var 1) (.cI 1)) .nil))) .nil)) .nil)))))
      .nop)
      .nop)
      (.seq (.ret (.tup (.cons (.cS [101, 118, 101, 114, 121]) (.cons (.bin .add (.cI 1) (.call 28 (.cons (.var 0) (.cons (.cI 3) .nil)))) (.cons (.lst false (.cons (.call 31 (.cons (.var 0) (.cons (.bin .sub (.var 1) (.cI 1)) .nil))) (.cons (.call 31 (.cons (.var 0) (.cons (.bin .sub (.var 1) (.cI 1)) .nil))) .nil))) .nil)))))
      .nop))))))))
def d31 : He.DefD := ⟨(("_law_tree" : Str), none), "_law_tree", "_law_tree", defArgs (top 36), defBody (top 36), defScope (top 36), [], []⟩
def f31 : FD := ⟨d31, ⟨2, 8, b31⟩, [("_law_d" : Str), ("_law_depth" : Str), ("_law_kind" : Str), ("_law_name" : Str), ("_law_many" : Str), ("_law_number" : Str), ("_law_below_here" : Str), ("_law_k" : Str)], [("_law_d" : Str), ("_law_depth" : Str)]⟩
/-- _law_weight -/
def b32 : Cy.St := (.seq (.set (.tp [2, 3, 4]) (.var 0))
      (.seq (.set (.nm 1) (.comp false (.nm 5) (.src (.var 4)) (.cB true) (.pcall 32 (.cons (.var 5) .nil))))
      (.seq (.ite (.cmp .inn (.var 2) (.lst false (.cons (.cS [119, 111, 114, 100]) (.cons (.cS [114, 101, 115, 116]) .nil))))
      (.seq (.ret (.cI 1))
      .nop)
      .nop)
      (.seq (.ite (.cmp .inn (.var 2) (.lst false (.cons (.cS [114, 111, 119]) (.cons (.cS [108, 97, 121, 101, 114, 115]) .nil))))
      (.seq (.ret (.bi .sum (.cons (.var 1) .nil)))
      .nop)
      .nop)
      (.seq (.ret (.ite (.cmp .eq (.var 2) (.cS [102, 97, 115, 116])) (.bin .mul (.idx (.var 1) (.cI 0)) (.var 3)) (.bi .max (.cons (.var 1) .nil))))
      .nop)))))
def d32 : He.DefD := ⟨(("_law_weight" : Str), none), "_law_weight", "_law_weight", defArgs (top 37), defBody (top 37), defScope (top 37), [], []⟩
def f32 : FD := ⟨d32, ⟨1, 6, b32⟩, [("_law_tree_here" : Str), ("_law_weights" : Str), ("_law_kind" : Str), ("_law_value" : Str), ("_law_items" : Str), ("_law_item" : Str)], [("_law_tree_here" : Str)]⟩
/-- _law_units -/
def b33 : Cy.St := (.seq (.ret (.bin .add (.bi .int (.cons (.cmp .nin (.idx (.var 0) (.cI 0)) (.lst false (.cons (.cS [102, 97, 115, 116]) (.cons (.cS [115, 108, 111, 119]) .nil)))) .nil)) (.bi .sum (.cons (.comp false (.nm 1) (.src (.idx (.var 0) (.cI 2))) (.cB true) (.pcall 33 (.cons (.var 1) .nil))) .nil))))
      .nop)
def d33 : He.DefD := ⟨(("_law_units" : Str), none), "_law_units", "_law_units", defArgs (top 38), defBody (top 38), defScope (top 38), [], []⟩
def f33 : FD := ⟨d33, ⟨1, 2, b33⟩, [("_law_tree_here" : Str), ("_law_item" : Str)], [("_law_tree_here" : Str)]⟩
/-- _law_bound -/
def b34 : Cy.St := (.seq (.set (.tp [3, 4, 5]) (.var 0))
      (.seq (.set (.nm 1) (.cI 1))
      (.seq (.for_ (.nm 2) (.src (.var 5))
      (.seq (.set (.nm 6) (.pcall 34 (.cons (.var 2) .nil)))
      (.seq (.set (.nm 1) (.bin .fdiv (.bin .mul (.var 1) (.var 6)) (.pcall 29 (.cons (.var 1) (.cons (.var 6) .nil)))))
      .nop)))
      (.seq (.ite (.cmp .eq (.var 3) (.cS [116, 117, 114, 110, 115]))
      (.seq (.ret (.bin .mul (.var 1) (.bi .len (.cons (.var 5) .nil))))
      .nop)
      .nop)
      (.seq (.ite (.cmp .eq (.var 3) (.cS [115, 108, 111, 119]))
      (.seq (.ret (.bin .mul (.var 1) (.var 4)))
      .nop)
      .nop)
      (.seq (.ite (.cmp .eq (.var 3) (.cS [102, 97, 115, 116]))
      (.seq (.ret (.bin .fdiv (.var 1) (.pcall 29 (.cons (.var 1) (.cons (.var 4) .nil)))))
      .nop)
      .nop)
      (.seq (.ret (.ite (.cmp .eq (.var 3) (.cS [101, 118, 101, 114, 121])) (.bin .fdiv (.bin .mul (.var 1) (.var 4)) (.pcall 29 (.cons (.var 1) (.cons (.var 4) .nil)))) (.var 1)))
      .nop)))))))
def d34 : He.DefD := ⟨(("_law_bound" : Str), none), "_law_bound", "_law_bound", defArgs (top 39), defBody (top 39), defScope (top 39), [], []⟩
def f34 : FD := ⟨d34, ⟨1, 7, b34⟩, [("_law_tree_here" : Str), ("_law_bound_here" : Str), ("_law_item" : Str), ("_law_kind" : Str), ("_law_value" : Str), ("_law_items" : Str), ("_law_other" : Str)], [("_law_tree_here" : Str)]⟩
/-- _law_pattern -/
def b35 : Cy.St := (.seq (.for_ (.nm 1) (.rng1 (.cI 6))
      (.seq (.set (.nm 2) (.call 31 (.cons (.var 0) (.cons (.bin .add (.cI 1) (.call 28 (.cons (.var 0) (.cons (.cI 3) .nil)))) .nil))))
      (.seq (.ite (.and (.cmp .le (.pcall 32 (.cons (.var 2) .nil)) (.cI 60)) (.and (.cmp .le (.pcall 33 (.cons (.var 2) .nil)) (.cI 25)) (.cmp .le (.pcall 34 (.cons (.var 2) .nil)) (.cI 40))))
      (.seq (.ret (.var 2))
      .nop)
      .nop)
      .nop)))
      (.seq (.ret (.tup (.cons (.cS [116, 117, 114, 110, 115]) (.cons (.cI 0) (.cons (.lst false (.cons (.tup (.cons (.cS [119, 111, 114, 100]) (.cons (.cS [97]) (.cons (.lst false .nil) .nil)))) (.cons (.tup (.cons (.cS [114, 101, 115, 116]) (.cons (.cI 0) (.cons (.lst false .nil) .nil)))) .nil))) .nil)))))
      .nop))
def d35 : He.DefD := ⟨(("_law_pattern" : Str), none), "_law_pattern", "_law_pattern", defArgs (top 40), defBody (top 40), defScope (top 40), [], []⟩
def f35 : FD := ⟨d35, ⟨1, 3, b35⟩, [("_law_d" : Str), ("_law_turn" : Str), ("_law_tree_here" : Str)], [("_law_d" : Str)]⟩
/-- _law_text -/
def b27 : Cy.St := (.seq (.set (.tp [2, 3, 4]) (.var 0))
      (.seq (.set (.nm 1) (.comp false (.nm 5) (.src (.var 4)) (.cB true) (.pcall 27 (.cons (.var 5) .nil))))
      (.seq (.ite (.cmp .eq (.var 2) (.cS [119, 111, 114, 100]))
      (.seq (.ret (.var 3))
      .nop)
      .nop)
      (.seq (.ite (.cmp .eq (.var 2) (.cS [114, 101, 115, 116]))
      (.seq (.ret (.cS [95]))
      .nop)
      .nop)
      (.seq (.ite (.cmp .eq (.var 2) (.cS [108, 97, 121, 101, 114, 115]))
      (.seq (.ret (.bin .add (.bin .add (.cS [91]) (.bm .join (.cS [32, 43, 32]) (.cons (.var 1) .nil))) (.cS [93])))
      .nop)
      .nop)
      (.seq (.ite (.cmp .inn (.var 2) (.lst false (.cons (.cS [114, 111, 119]) (.cons (.cS [116, 117, 114, 110, 115]) .nil))))
      (.seq (.ret (.bin .add (.bin .add (.idx (.cS [40, 123]) (.bi .int (.cons (.cmp .eq (.var 2) (.cS [116, 117, 114, 110, 115])) .nil))) (.bm .join (.cS [32]) (.cons (.var 1) .nil))) (.idx (.cS [41, 125]) (.bi .int (.cons (.cmp .eq (.var 2) (.cS [116, 117, 114, 110, 115])) .nil)))))
      .nop)
      .nop)
      (.seq (.ite (.cmp .inn (.var 2) (.lst false (.cons (.cS [102, 97, 115, 116]) (.cons (.cS [115, 108, 111, 119]) .nil))))
      (.seq (.ret (.bin .add (.bin .add (.idx (.var 1) (.cI 0)) (.idx (.cS [94, 58]) (.bi .int (.cons (.cmp .eq (.var 2) (.cS [115, 108, 111, 119])) .nil)))) (.bi .str (.cons (.var 3) .nil))))
      .nop)
      .nop)
      (.seq (.ite (.cmp .eq (.var 2) (.cS [115, 104, 105, 102, 116]))
      (.seq (.ret (.bin .add (.bin .add (.bin .add (.bin .add (.bin .add (.bin .add (.cS [108, 97, 116, 101, 40]) (.bi .str (.cons (.idx (.var 3) (.cI 0)) .nil))) (.cS [47])) (.bi .str (.cons (.idx (.var 3) (.cI 1)) .nil))) (.cS [44, 32])) (.idx (.var 1) (.cI 0))) (.cS [41])))
      .nop)
      .nop)
      (.seq (.ret (.ite (.cmp .eq (.var 2) (.cS [114, 101, 118])) (.bin .add (.bin .add (.cS [109, 105, 114, 114, 111, 114, 40]) (.idx (.var 1) (.cI 0))) (.cS [41])) (.bin .add (.bin .add (.bin .add (.bin .add (.cS [101, 97, 99, 104, 40]) (.bi .str (.cons (.var 3) .nil))) (.cS [44, 32])) (.bm .join (.cS [44, 32]) (.cons (.var 1) .nil))) (.cS [41]))))
      .nop)))))))))
def d27 : He.DefD := ⟨(("_law_text" : Str), none), "_law_text", "_law_text", defArgs (top 41), defBody (top 41), defScope (top 41), [], []⟩
def f27 : FD := ⟨d27, ⟨1, 6, b27⟩, [("_law_tree_here" : Str), ("_law_texts" : Str), ("_law_kind" : Str), ("_law_value" : Str), ("_law_items" : Str), ("_law_item" : Str)], [("_law_tree_here" : Str)]⟩
/-- _law_equal -/
def b47 : Cy.St := (.seq (.ite (.cmp .is (.var 1) .cN)
      (.seq (.ret (.cmp .is (.var 0) .cN))
      .nop)
      .nop)
      (.seq (.ite (.isa .bool (.var 1))
      (.seq (.ret (.and (.isa .bool (.var 0)) (.cmp .eq (.var 0) (.var 1))))
      .nop)
      .nop)
      (.seq (.ite (.isa .int (.var 1))
      (.seq (.ret (.and (.isa .int (.var 0)) (.and (.not (.isa .bool (.var 0))) (.cmp .eq (.var 0) (.var 1)))))
      .nop)
      .nop)
      (.seq (.ite (.isa .str (.var 1))
      (.seq (.ret (.and (.isa .str (.var 0)) (.cmp .eq (.var 0) (.var 1))))
      .nop)
      .nop)
      (.seq (.ite (.cmp .ne (.isa .tuple (.var 1)) (.isa .tuple (.var 0)))
      (.seq (.ret (.cB false))
      .nop)
      .nop)
      (.seq (.ite (.cmp .ne (.isa .list (.var 1)) (.isa .list (.var 0)))
      (.seq (.ret (.cB false))
      .nop)
      .nop)
      (.seq (.ite (.cmp .ne (.bi .len (.cons (.var 0) .nil)) (.bi .len (.cons (.var 1) .nil)))
      (.seq (.ret (.cB false))
      .nop)
      .nop)
      (.seq (.ret (.bi .all (.cons (.comp false (.nm 2) (.rng1 (.bi .len (.cons (.var 1) .nil))) (.cB true) (.pcall 47 (.cons (.idx (.var 0) (.var 2)) (.cons (.idx (.var 1) (.var 2)) .nil)))) .nil)))
      .nop))))))))
def d47 : He.DefD := ⟨(("_law_equal" : Str), none), "_law_equal", "_law_equal", defArgs (top 42), defBody (top 42), defScope (top 42), [], []⟩
def f47 : FD := ⟨d47, ⟨2, 3, b47⟩, [("_law_actual" : Str), ("_law_expected" : Str), ("_law_k" : Str)], [("_law_actual" : Str), ("_law_expected" : Str)]⟩
/-- law -/
def b43 : Cy.St := (.seq (.set (.nm 1) (.call 25 (.cons (.var 0) (.cons (.cI 3) .nil))))
      (.seq (.for_ (.nm 2) (.rng1 (.cI 5))
      (.seq (.set (.nm 3) (.call 35 (.cons (.var 1) .nil)))
      (.seq (.set (.nm 4) (.pcall 27 (.cons (.var 3) .nil)))
      (.seq (.set (.nm 5) (.cS []))
      (.seq (.for_ (.nm 6) (.rng1 (.bi .len (.cons (.var 4) .nil)))
      (.seq (.par [7, 8] (.cons (.idx (.var 4) (.var 6)) (.cons (.bin .add (.sl false (.var 4) (.cons (.bi .max (.cons (.cI 0) (.cons (.bin .sub (.var 6) (.cI 1)) .nil))) .nil) (.cons (.var 6) .nil)) (.sl false (.var 4) (.cons (.bin .add (.var 6) (.cI 1)) .nil) (.cons (.bin .add (.var 6) (.cI 2)) .nil))) .nil)))
      (.seq (.ite (.and (.cmp .eq (.var 7) (.cS [32])) (.cmp .eq (.comp false (.nm 9) (.srcS (.var 8)) (.cmp .inn (.var 9) (.cS [95, 40, 41, 91, 93, 123, 125, 43, 94, 58, 47, 44])) (.var 9)) (.lst false .nil)))
      (.seq (.set (.nm 5) (.bin .add (.var 5) (.cS [32, 32])))
      .nop)
      (.seq (.ite (.cmp .eq (.var 7) (.cS [32]))
      (.seq (.set (.nm 5) (.bin .add (.var 5) (.bin .mul (.cS [32]) (.call 28 (.cons (.var 1) (.cons (.cI 3) .nil))))))
      .nop)
      (.seq (.set (.nm 5) (.bin .add (.bin .add (.var 5) (.var 7)) (.bin .mul (.cS [32]) (.bin .mul (.bi .int (.cons (.cmp .inn (.var 7) (.cS [95, 40, 41, 91, 93, 123, 125, 43, 94, 58, 47, 44])) .nil)) (.call 28 (.cons (.var 1) (.cons (.cI 2) .nil)))))))
      .nop))
      .nop))
      .nop)))
      (.seq (.ite (.not (.pcall 47 (.cons (.lst false (.cons (.pcall 24 (.cons (.var 4) .nil)) (.cons (.pcall 24 (.cons (.var 5) .nil)) .nil))) (.cons (.lst false (.cons (.var 4) (.cons (.var 4) .nil))) .nil))))
      (.seq (.ret (.cB false))
      .nop)
      .nop)
      (.seq (.ite (.not (.pcall 47 (.cons (.pcall 46 (.cons (.var 5) .nil)) (.cons (.pcall 33 (.cons (.var 3) .nil)) .nil))))
      (.seq (.ret (.cB false))
      .nop)
      .nop)
      .nop)))))))
      (.seq (.ret (.cmp .eq (.pcall 24 (.cons (.cS [108, 97, 116, 101, 40, 50, 47, 52, 44, 108, 97, 116, 101, 40, 48, 47, 57, 44, 97, 41, 41]) .nil)) (.cS [108, 97, 116, 101, 40, 49, 47, 50, 44, 32, 108, 97, 116, 101, 40, 48, 47, 49, 44, 32, 97, 41, 41])))
      .nop)))
def d43 : He.DefD := ⟨(("law" : Str), none), "law", "law", defArgs (top 43), defBody (top 43), defScope (top 43), [], []⟩
def f43 : FD := ⟨d43, ⟨1, 10, b43⟩, [("_law_script" : Str), ("_law_d" : Str), ("_law_step" : Str), ("_law_tree_here" : Str), ("_law_text_here" : Str), ("_law_loose" : Str), ("_law_k" : Str), ("_law_sign" : Str), ("_law_beside" : Str), ("_law_one" : Str)], [("_law_script" : Str)]⟩
def fns : List (Nat × FD) := [(6, f6), (7, f7), (8, f8), (9, f9), (10, f10), (11, f11), (12, f12), (13, f13), (14, f14), (15, f15), (16, f16), (17, f17), (18, f18), (19, f19), (20, f20), (21, f21), (22, f22), (23, f23), (24, f24), (45, f45), (46, f46), (25, f25), (28, f28), (29, f29), (30, f30), (31, f31), (32, f32), (33, f33), (34, f34), (35, f35), (27, f27), (47, f47), (43, f43)]
def L : LT where
  fns := fns
  nms := nms
  cons := [(172, (.str [97, 98, 99, 100, 101, 102, 103, 104, 105, 106, 107, 108, 109, 110, 111, 112, 113, 114, 115, 116, 117, 118, 119, 120, 121, 122])), (173, (.str [48, 49, 50, 51, 52, 53, 54, 55, 56, 57])), (174, (.str [95, 40, 41, 91, 93, 123, 125, 43, 94, 58, 47, 44])), (175, (.tup [(.str [109, 105, 114, 114, 111, 114]), (.str [108, 97, 116, 101]), (.str [101, 97, 99, 104])])), (176, (.int 8)), (177, (.int 3)), (178, (.int 16)), (179, (.int 64)), (180, (.int 12)), (181, (.int 60)), (182, (.int 500)), (193, (.dct [[114, 111, 119], [108, 97, 121, 101, 114, 115], [116, 117, 114, 110, 115]] [(.str [40, 41]), (.str [91, 93]), (.str [123, 125])]))]
  meths := [(183, 184, 11), (183, 185, 12), (183, 186, 13), (183, 187, 14), (183, 188, 15), (183, 189, 16), (183, 190, 17), (183, 191, 18), (183, 192, 19)]
  inits := [(183, 10)]
  atts := [(183, 196), (183, 197), (183, 198), (183, 199)]
  frees := [("len" : Str), ("abs" : Str), ("sum" : Str), ("max" : Str), ("min" : Str), ("all" : Str), ("any" : Str), ("int" : Str), ("str" : Str), ("list" : Str), ("tuple" : Str), ("sorted" : Str), ("range" : Str), ("isinstance" : Str), ("bool" : Str)]
theorem bds : ∀ F ∈ L.fns.map (·.2), ∀ (kV doc pm : Value) (an : Option Addr) (cdv ct : Value) (us : List Value), us.length = F.ps.length → bindArgs (PySem.W.fnOf F.dd.name F.dd.qual F.dd.params F.dd.body F.dd.scope .none kV doc pm an cdv ct) ⟨us, []⟩ = pure (F.ps.zip us) := by
  intro F hF
  simp only [L, fns, List.map_cons, List.map_nil, List.mem_cons, List.not_mem_nil, or_false] at hF
  rcases hF with h | h | h | h | h | h | h | h | h | h | h | h | h | h | h | h | h | h | h | h | h | h | h | h | h | h | h | h | h | h | h | h | h <;> subst h <;> intro kV doc pm an cdv ct us hl
  · exact match us, hl with | [_, _], _ => rfl
  · exact match us, hl with | [_, _], _ => rfl
  · exact match us, hl with | [_, _], _ => rfl
  · exact match us, hl with | [_], _ => rfl
  · exact match us, hl with | [_, _], _ => rfl
  · exact match us, hl with | [_], _ => rfl
  · exact match us, hl with | [_], _ => rfl
  · exact match us, hl with | [_, _], _ => rfl
  · exact match us, hl with | [_], _ => rfl
  · exact match us, hl with | [_], _ => rfl
  · exact match us, hl with | [_, _], _ => rfl
  · exact match us, hl with | [_, _], _ => rfl
  · exact match us, hl with | [_, _, _], _ => rfl
  · exact match us, hl with | [_, _, _], _ => rfl
  · exact match us, hl with | [_], _ => rfl
  · exact match us, hl with | [_], _ => rfl
  · exact match us, hl with | [_], _ => rfl
  · exact match us, hl with | [_], _ => rfl
  · exact match us, hl with | [_], _ => rfl
  · exact match us, hl with | [_], _ => rfl
  · exact match us, hl with | [_], _ => rfl
  · exact match us, hl with | [_, _], _ => rfl
  · exact match us, hl with | [_, _], _ => rfl
  · exact match us, hl with | [_, _], _ => rfl
  · exact match us, hl with | [_, _], _ => rfl
  · exact match us, hl with | [_, _], _ => rfl
  · exact match us, hl with | [_], _ => rfl
  · exact match us, hl with | [_], _ => rfl
  · exact match us, hl with | [_], _ => rfl
  · exact match us, hl with | [_], _ => rfl
  · exact match us, hl with | [_], _ => rfl
  · exact match us, hl with | [_, _], _ => rfl
  · exact match us, hl with | [_], _ => rfl
theorem names_ : ∀ (f : Nat) (F : FD), look1 L.fns f = some F → F.dd.at_.2 = none → nmOf L.nms f = F.dd.at_.1 := fun f F h n => by
  have z : (L.fns.all fun q => match q.2.dd.at_.2 with
      | none => decide (nmOf L.nms q.1 = q.2.dd.at_.1)
      | some _ => true) = true := by decide +kernel
  have q := List.all_eq_true.mp z _ (look1_mem h)
  simp only [n] at q
  exact of_decide_eq_true q
def atIs (f : Nat) (a : Str) (m : Str) : Bool := match look1 L.fns f with
  | some F => decide (F.dd.at_ = (a, some m))
  | none => false
theorem atIs_ok {f : Nat} {a m : Str} (h : atIs f a m = true) : ∃ F, look1 L.fns f = some F ∧ F.dd.at_ = (a, some m) := by
  unfold atIs at h
  split at h
  · rename_i F e
    exact ⟨F, e, of_decide_eq_true h⟩
  · cases h
theorem ok : L.Ok where
  nd := by decide +kernel
  lo := by decide +kernel
  okn := by decide +kernel
  fns := List.all_eq_true.mp (show (L.fns.all fun q => q.2.ok L) = true by decide +kernel)
  bds := bds
  names := names_
  meths := fun q hq => atIs_ok (List.all_eq_true.mp (show (L.meths.all fun q => atIs q.2.2 (nmOf L.nms q.1) (nmOf L.nms q.2.1)) = true by decide +kernel) q hq)
  inits := fun q hq => atIs_ok (List.all_eq_true.mp (show (L.inits.all fun q => atIs q.2 (nmOf L.nms q.1) "__init__") = true by decide +kernel) q hq)
  free := fun b => by cases b <;> decide +kernel
  freeT := fun b => by cases b <;> decide +kernel
  freeR := by decide +kernel
end Tb
end

section
set_option Elab.async false
set_option linter.all false
set_option maxRecDepth 100000
set_option maxHeartbeats 0
namespace Hd
open PySem PySem.Spec PyProof.Rows PySem.W L2 Cy
abbrev R : PySem.W.OpenRow := PySem.W.OpenLaw.row PySem.Challenge.rw_cyclebeat_k03_canonical_patterns
abbrev hk : PySem.W.Hook := hookC 5 Tb.L
def ob (s : PySem.W.SharedT) : AlC := obsCG 5 Tb.L (HandSHeadRun.getT s)
theorem ob_eq (s : PySem.W.SharedT) : ob s = hk.obs s.abs := obsCG_eq (HandSHeadRun.getT_eq s)
def loose : List PySem.Str := (["BeatError", "SyntaxFault", "CheckFault", "greatest_common", "ratio", "LETTERS", "DIGITS", "SYMBOLS", "KEYWORDS", "MAX_LETTERS", "MAX_DIGITS", "MAX_NUMBER", "MAX_DENOMINATOR", "MAX_DEPTH", "MAX_UNITS", "MAX_EVENTS", "token_length", "tokenize", "Parser", "bound_events", "reduce_shifts", "load", "BRACKETS", "format_tree", "format_pattern", "count_units", "measure", "_law_random", "_law_below", "_law_common"] : List PySem.Str) ++ (["_law_ratio", "_law_tree", "_law_weight", "_law_units", "_law_bound", "_law_pattern", "_law_text", "_law_equal"] : List PySem.Str)
abbrev RP (w : World) : Prop := HandSHeadRun.RunEq R (PySem.W.view R.prog [43]) hk ob 20000 loose w
theorem runF (w : World) : RP (w.withFollow "special-get-raises" false) := by
  intro os
  kernel_rfl
theorem runT (w : World) : RP (w.withFollow "special-get-raises" true) := by
  intro os
  kernel_rfl
theorem run (w : World) : RP w := byRow2 "special-get-raises" (P := RP) runF runT w
end Hd
end

section
set_option linter.all false
set_option maxRecDepth 100000
set_option maxHeartbeats 0
namespace Rn
open Cy
theorem tree : TreeP Tb.L.prog := ⟨rfl, rfl, rfl, rfl, rfl, rfl, rfl, rfl⟩
theorem pat : PatP Tb.L.prog := { tree with weight := rfl, units := rfl, bound := rfl, pattern := rfl, g32 := rfl, g33 := rfl, g34 := rfl, g35 := rfl }
theorem tok : TokP Tb.L.prog := ⟨rfl, rfl, rfl, rfl, rfl, rfl, rfl, rfl, rfl⟩
theorem par : ParP Tb.L.prog := { tok with init := rfl, peek := rfl, fail := rfl, expect := rfl, number := rfl, count := rfl, pattern := rfl, unit := rfl, group := rfl, call := rfl, m11 := rfl, m12 := rfl, m13 := rfl, m14 := rfl, m15 := rfl, m16 := rfl, m17 := rfl, m18 := rfl, m19 := rfl, ini := rfl, a196 := rfl, a197 := rfl, a198 := rfl, a199 := rfl, keywords := rfl, maxNumber := rfl, maxDen := rfl, maxDepth := rfl, maxUnits := rfl }
theorem load : LoadP Tb.L.prog := { par with gcd := rfl, g6 := rfl, ratio := rfl, g7 := rfl, bev := rfl, g20 := rfl, redu := rfl, g21 := rfl, load := rfl, g22 := rfl, maxEvents := rfl }
theorem fmt : FmtP Tb.L.prog := { load with fmt := rfl, g23 := rfl, brk := rfl, fp := rfl, g24 := rfl }
theorem all : K03P Tb.L.prog := { pat := pat, fmt := fmt, random := rfl, text := rfl, g25 := rfl, g27 := rfl, count := rfl, g45 := rfl, meas := rfl, g46 := rfl, eqv := rfl, g47 := rfl }
end Rn
theorem run_law (ns : List Int) (h : ns.length ≤ 63) : ∃ M', Cy.runF Tb.L.prog 60 43 [.lst (ns.map .int)] [] = .ok (.bl true) M' :=
  Cy.k03_run Rn.all rfl ns h 39
end

section
set_option Elab.async false
set_option linter.all false
set_option maxRecDepth 100000
set_option maxHeartbeats 0
open PySem PySem.W PySem.Calls PyProof.Rows
theorem PySem.Challenge.cw_cyclebeat_k03_canonical_patterns_holds : PySem.Challenge.rw_cyclebeat_k03_canonical_patterns.Holds := by
  w_on; o_law
  refine HandSHeadRun.head_any (r := OpenLaw.row PySem.Challenge.rw_cyclebeat_k03_canonical_patterns) (q := view (OpenLaw.row PySem.Challenge.rw_cyclebeat_k03_canonical_patterns).prog [43]) (H := Hd.hk) (ob := Hd.ob) (M := 20000) (loose := Hd.loose) (d := HandSHeadRun.topDef (OpenLaw.row PySem.Challenge.rw_cyclebeat_k03_canonical_patterns).prog 43) (kwd := []) Hd.ob_eq
    (by kernel_rfl) (fun s => by kernel_rfl) Hd.run (by kernel_rfl) (by kernel_rfl) (by kernel_rfl) (by rfl) (by first | assumption | decide +kernel) (by decide +kernel) ⟨rfl, rfl, rfl, rfl, rfl, by decide +kernel⟩ ?hw ?hc
  case hw => w_witness2
  case hc =>
    refine Cy.walkC (law := PySem.Challenge.rw_cyclebeat_k03_canonical_patterns) (most := 63) (k := 2 * 60 + 4) (x := "_law_script") rfl (by decide) (by kernel_rfl) ⟨rfl, by decide, by decide⟩ ?F
    intro w mg fa h Y G hmg0
    have hmg : mg ("law" : PySem.Str) = some (.ref fa) := by
      have e : (HandSHeadRun.topDef (OpenLaw.row PySem.Challenge.rw_cyclebeat_k03_canonical_patterns).prog 43).name = ("law" : PySem.Str) := by kernel_rfl
      rw [← e]
      exact hmg0
    exact Cy.law_end Tb.ok (f := 43) (k := 60) (n := 63) (F := Tb.f43) rfl rfl rfl run_law Y G hmg
end
