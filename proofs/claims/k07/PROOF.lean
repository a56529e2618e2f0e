import PyProof.Rows.All
import Wide.All
import OpenK.AllK
import Wide.FinOn
import HandS.ForMost
import HandS.Exc
import HandS.ExcOwn
import HandS.WordsExc
import HandS.SlotsVar
import HandS.Wide
import HandS.WideBits
import HandS.TupAny
import HandS.TupMul
import HandS.SortInts
import HandS.SortKw
import HandS.SlotsOwn
import HandS.IsInst
import HandS.Star
import HandS.CallLocal
import KE.GoesEnum
import HandS.Walk
import KE.GoesZip
import KE.GoesMore
import HandS.Zip
import HandS.Style
import HandS.Conv
import HandS.More
import PyProof.Rows.PlainNe
import PySem.Challenge.RW_ownchecks_k07_whole_parts_and_traces
set_option Elab.async false
set_option linter.all false
set_option maxRecDepth 100000
set_option maxHeartbeats 4000000
namespace Mi
inductive Vl where
  | non
  | bl (b : Bool)
  | int (i : Int)
  | str (s : List Nat)
  | tup (xs : List Vl)
  | lst (xs : List Vl)
  | scr (xs : List Vl)
  | dct (xs : List Vl)
  | ins (c : Nat) (xs : List Vl)
  | ref (n : Nat)
  | fn (g : Nat)
  | clo (k : Nat)
  deriving Inhabited
inductive Ob where
  | lst (xs : List Vl)
  | dct (kvs : List (Vl × Vl))
  | ins (c : Nat) (xs : List (Option Vl))
  deriving Inhabited
inductive R (α : Type) where
  | ok (a : α) (h : List Ob)
  | exc (c : Nat) (p : Option Vl) (h : List Ob)
  | bad
abbrev Env := List (Option Vl)
abbrev Hh := List Ob
def bnd {α β : Type} (r : R α) (f : α → Hh → R β) : R β :=
  match r with
  | .ok a h => f a h
  | .exc c p h => .exc c p h
  | .bad => .bad
def lift {α : Type} (o : Option α) (h : Hh) : R α :=
  match o with
  | some a => .ok a h
  | none => .bad
inductive BO where | add | sub | mul | fdiv | mod | pow | shl | shr | and | or | xor
inductive CO where | eq | ne | lt | le | gt | ge | is | isnot | isin | notin
inductive Tg where | n (i : Nat) | t (is : List Nat)
inductive Bif where
  | len | abs | max2 | min2 | maxl | minl | int | tuple | sum | all | any | isint | isbool | istuple | isstr | islist | isown (c : Nat)
inductive Mth where | append | extend | pop0 | pop1 | bitlen
inductive Ex where
  | var (i : Nat)
  | int (i : Int)
  | bl (b : Bool)
  | non
  | str (s : List Nat)
  | gl (g : Nat)
  | bin (o : BO) (a b : Ex)
  | neg (a : Ex)
  | cmp (o : CO) (a b : Ex)
  | chain (o p : CO) (a b c : Ex)
  | and (a b : Ex)
  | or (a b : Ex)
  | not (a : Ex)
  | ite (c a b : Ex)
  | tup (as : Ex)
  | fz (f : Ex)
  | th (f : Ex)
  | sub (a i : Ex)
  | slc (a lo hi : Ex)
  | call (f : Nat) (as : Ex)
  | callv (i : Nat) (as : Ex)
  | mk (c : Nat) (as : Ex)
  | bif (b : Bif) (as : Ex)
  | mth (m : Mth) (o as : Ex)
  | attr (o : Ex) (f : Nat)
  | isown (c : Nat) (e : Ex)
  | ocmp (neg : Bool) (a b : Ex)
  | rev (a : Ex)
  | dnew
  | trg (as : Ex)
  -- arguments
  | anil
  | acons (e r : Ex)
  | astar (e r : Ex)
  -- fresh lists
  | disp (as : Ex)
  | comp (own : List Nat) (tg : Tg) (it c e : Ex)
  | listof (e : Ex)
  | srt (rev : Bool) (e : Ex)
  | cat (a b : Ex)
  | rep (a b : Ex)
  | slf (a lo hi : Ex)
  | lrg (as : Ex)
  -- what is walked
  | over (e : Ex)
  | range (as : Ex)
  | enum (e : Ex)
  | zip (a b : Ex)
  | noe
  | sm (e : Ex)
inductive St where
  | skip
  | never
  | seq (a b : St)
  | ex (e : Ex)
  | set (i : Nat) (e : Ex)
  | par (is : List Nat) (as : Ex)
  | unp (is : List Nat) (e : Ex)
  | aug (i : Nat) (o : BO) (e : Ex)
  | sets (o i e : Ex)
  | augs (o i : Ex) (b : BO) (e : Ex)
  | setf (o : Ex) (f : Nat) (e : Ex)
  | parf (o : Nat) (fs : List Nat) (as : Ex)
  | ifs (c : Ex) (a b : St)
  | fors (tg : Tg) (it : Ex) (b : St)
  | whiles (c : Ex) (b : St)
  | ret (e : Ex)
  | brk
  | cnt
  | raise (c : Nat) (as : Ex)
def seqOf (h : Hh) : Vl → Option (List Vl)
  | .tup xs => some xs
  | .lst xs => some xs
  | .scr xs => some xs
  | .ref n => match h[n]? with
    | some (.lst xs) => some xs
    | _ => none
  | _ => none
def lstOf (h : Hh) : Vl → Option (List Vl)
  | .lst xs => some xs
  | .ref n => match h[n]? with
    | some (.lst xs) => some xs
    | _ => none
  | _ => none
def intOf : Vl → Option Int
  | .int i => some i
  | _ => none
def intsOf : List Vl → Option (List Int)
  | [] => some []
  | .int i :: r => match intsOf r with
    | some l => some (i :: l)
    | none => none
  | _ :: _ => none
def blsOf : List Vl → Option (List Bool)
  | [] => some []
  | .bl i :: r => match blsOf r with
    | some l => some (i :: l)
    | none => none
  | _ :: _ => none
def line : Nat := 16777216
def truth (h : Hh) : Vl → Option Bool
  | .non => some false
  | .bl b => some b
  | .int i => some (i != 0)
  | .str s => if s.length ≤ line then some (!s.isEmpty) else none
  | .tup xs => some (!xs.isEmpty)
  | .lst xs => some (!xs.isEmpty)
  | .scr xs => some (!xs.isEmpty)
  | .ref n => match h[n]? with
    | some (.lst xs) => some (!xs.isEmpty)
    | some (.dct xs) => some (!xs.isEmpty)
    | _ => none
  | _ => none
mutual
def eqV : Vl → Vl → Bool
  | .non, .non => true
  | .bl a, .bl b => a == b
  | .bl a, .int j => (if a then 1 else 0) == j
  | .int i, .bl b => i == (if b then 1 else 0)
  | .int i, .int j => i == j
  | .str x, .str y => x == y
  | .lst xs, .lst ys => eqL xs ys
  | .tup xs, .tup ys => eqL xs ys
  | _, _ => false
def eqL : List Vl → List Vl → Bool
  | [], [] => true
  | x :: xs, y :: ys => match eqV x y with
    | true => eqL xs ys
    | false => false
  | [], _ :: _ => false
  | _ :: _, [] => false
end
mutual
def pl : Vl → Nat → Bool
  | .non, _ => true
  | .bl _, _ => true
  | .int _, _ => true
  | .str s, _ => s.all (· < 0x110000)
  | .lst xs, n + 1 => plL xs n
  | .tup xs, n + 1 => plL xs n
  | _, _ => false
def plL : List Vl → Nat → Bool
  | [], _ => true
  | x :: xs, n => match pl x n with
    | true => plL xs n
    | false => false
end
def deref (h : Hh) : Vl → Vl
  | .ref n => match h[n]? with
    | some (.lst xs) => .lst xs
    | _ => .ref n
  | v => v
def pyEq (h : Hh) (x y : Vl) : Option Bool :=
  let a := deref h x
  let b := deref h y
  match pl a 20 with
  | true => match pl b 20 with
    | true => some (eqV a b)
    | false => none
  | false => none
def flat : Vl → Bool
  | .non => true
  | .bl _ => true
  | .int _ => true
  | .str _ => true
  | _ => false
def bitsOk (i : Int) (n : Nat) : Bool := decide (i.natAbs.log2 < n)
def natOf : Int → Option Nat
  | .ofNat n => some n
  | .negSucc _ => none
def binI (o : BO) (i j : Int) : Option Int :=
  match o with
  | .add => some (i + j)
  | .sub => some (i - j)
  | .mul => if i.natAbs.log2 + j.natAbs.log2 < 1000000 ∨ (-18446744073709551616 < i ∧ i < 18446744073709551616) ∨ (-18446744073709551616 < j ∧ j < 18446744073709551616) then some (i * j) else none
  | .fdiv => if 0 < j then (if j.natAbs.log2 < 9000 then some (i / j) else none) else none
  | .mod => if 0 < j then some (i % j) else none
  | .pow => match natOf j with
    | some m => if (i.natAbs.log2 + 1) * m < 100000 then some (i ^ m) else none
    | none => none
  | .shl => match natOf j with
    | some m => if i.natAbs.log2 + m < 100000 then some (i * 2 ^ m) else none
    | none => none
  | .shr => match natOf j with
    | some m => some (i / 2 ^ m)
    | none => none
  | .and => match natOf i with
    | some a => match natOf j with
      | some b => some (.ofNat (a &&& b))
      | none => none
    | none => none
  | .or => match natOf i with
    | some a => match natOf j with
      | some b => some (.ofNat (a ||| b))
      | none => none
    | none => none
  | .xor => match natOf i with
    | some a => match natOf j with
      | some b => some (.ofNat (a ^^^ b))
      | none => none
    | none => none
def repL (k : Nat) (xs : List Vl) : List Vl := (List.replicate k xs).flatten
def binV (o : BO) (h : Hh) (x y : Vl) : Option Vl :=
  match x, y with
  | .int i, .int j => match binI o i j with
    | some k => some (.int k)
    | none => none
  | .str a, .str b => match o with
    | .add => if a.length + b.length ≤ line then some (.str (a ++ b)) else none
    | _ => none
  | .tup a, .tup b => match o with
    | .add => if a.length + b.length ≤ line then some (.tup (a ++ b)) else none
    | _ => none
  | .tup a, .int k => match o with
    | .mul => if 2 ≤ k then (if k ≤ 1000 then (if a.length ≤ 1000 then (if a.isEmpty then none else some (.tup (repL k.toNat a))) else none) else none) else none
    | _ => none
  | _, _ => none
def augV (o : BO) (h : Hh) (x y : Vl) : Option Vl :=
  match x, y with
  | .int i, .int j => match binI o i j with
    | some k => some (.int k)
    | none => none
  | .str a, .str b => match o with
    | .add => if a.length + b.length ≤ line then some (.str (a ++ b)) else none
    | _ => none
  | _, _ => none
def catV (h : Hh) (x y : Vl) : Option (List Vl) :=
  match lstOf h x with
  | some a => match lstOf h y with
    | some b => if a.length + b.length ≤ line then some (a ++ b) else none
    | none => none
  | none => none
def repV (h : Hh) (x y : Vl) : Option (List Vl) :=
  match lstOf h x with
  | some a => match y with
    | .int k => if a.length * k.toNat ≤ line then (if k < 1000000 then (if -1000000 < k then some (repL k.toNat a) else none) else none) else none
    | _ => none
  | none => none
def inB (x : Vl) : List Vl → Bool
  | [] => false
  | y :: r => match eqV y x with
    | true => true
    | false => inB x r
def keyOk : Vl → Bool
  | .int _ => true
  | .str _ => true
  | _ => false
def keyEq : Vl → Vl → Bool
  | .int i, .int j => i == j
  | .str x, .str y => x == y
  | _, _ => false
def dget (k : Vl) : List (Vl × Vl) → Option Vl
  | [] => none
  | (a, v) :: r => match keyEq a k with
    | true => some v
    | false => dget k r
def drep (k v : Vl) : List (Vl × Vl) → List (Vl × Vl)
  | [] => []
  | (a, x) :: r => match keyEq a k with
    | true => (a, v) :: drep k v r
    | false => (a, x) :: drep k v r
def dput (k v : Vl) (kvs : List (Vl × Vl)) : List (Vl × Vl) :=
  match dget k kvs with
  | some _ => drep k v kvs
  | none => kvs ++ [(k, v)]
def isIn (h : Hh) (x y : Vl) : Option Bool :=
  match y with
  | .ref n => match h[n]? with
    | some (.dct kvs) => if keyOk x then some (dget x kvs).isSome else none
    | some (.lst xs) => if flat x && xs.all flat then some (inB x xs) else none
    | _ => none
  | .tup xs => if flat x && xs.all flat then some (inB x xs) else none
  | .lst xs => if flat x && xs.all flat then some (inB x xs) else none
  | _ => none
def isNon : Vl → Bool
  | .non => true
  | _ => false
def cmpV (o : CO) (h : Hh) (x y : Vl) : Option Bool :=
  match o with
  | .eq => pyEq h x y
  | .ne => match pyEq h x y with
    | some b => some (!b)
    | none => none
  | .lt => match x, y with
    | .int i, .int j => some (decide (i < j))
    | _, _ => none
  | .le => match x, y with
    | .int i, .int j => some (decide (i ≤ j))
    | _, _ => none
  | .gt => match x, y with
    | .int i, .int j => some (decide (j < i))
    | _, _ => none
  | .ge => match x, y with
    | .int i, .int j => some (decide (j ≤ i))
    | _, _ => none
  | .is => match y with
    | .non => some (isNon x)
    | _ => none
  | .isnot => match y with
    | .non => some (!isNon x)
    | _ => none
  | .isin => isIn h x y
  | .notin => match isIn h x y with
    | some b => some (!b)
    | none => none
def ixN (n : Nat) (i : Int) : Option Nat :=
  match i with
  | .ofNat k => if k < n then some k else none
  | .negSucc k => if k < n then some (n - (k + 1)) else none
def subV (h : Hh) (x y : Vl) : Option Vl :=
  match y with
  | .int i => match x with
    | .ref n => match h[n]? with
      | some (.lst xs) => match ixN xs.length i with
        | some j => xs[j]?
        | none => none
      | some (.dct kvs) => dget y kvs
      | _ => none
    | .tup xs => match ixN xs.length i with
      | some j => xs[j]?
      | none => none
    | .lst xs => match ixN xs.length i with
      | some j => xs[j]?
      | none => none
    | .scr xs => match ixN xs.length i with
      | some j => xs[j]?
      | none => none
    | _ => none
  | .str _ => match x with
    | .ref n => match h[n]? with
      | some (.dct kvs) => dget y kvs
      | _ => none
    | _ => none
  | _ => none
def getO (h : Hh) (x y : Vl) : Option Vl :=
  match x with
  | .ref _ => subV h x y
  | _ => none
def sIx (n d : Nat) : Option Int → Nat
  | none => d
  | some (.ofNat k) => min k n
  | some (.negSucc k) => n - (k + 1)
def cut (xs : List Vl) (lo hi : Option Int) : List Vl := (xs.drop (sIx xs.length 0 lo)).take (sIx xs.length xs.length hi - sIx xs.length 0 lo)
def cutW (h : Hh) (x : Vl) (lo hi : Option Int) : Option Vl :=
  match x with
  | .tup xs => some (.tup (cut xs lo hi))
  | .lst xs => some (.lst (cut xs lo hi))
  | .scr xs => some (.lst (cut xs lo hi))
  | .ref n => match h[n]? with
    | some (.lst xs) => some (.lst (cut xs lo hi))
    | _ => none
  | _ => none
def partOf : Option Vl → Option (Option Int)
  | none => some none
  | some (.int i) => some (some i)
  | _ => none
def insI (x : Int) : List Int → List Int
  | [] => [x]
  | y :: r => if x ≤ y then x :: y :: r else y :: insI x r
def sortI : List Int → List Int
  | [] => []
  | x :: r => insI x (sortI r)
def sumI : List Int → Int
  | [] => 0
  | x :: r => x + sumI r
def maxI : List Int → Option Int
  | [] => none
  | [x] => some x
  | x :: r => match maxI r with
    | some m => some (if x ≤ m then m else x)
    | none => none
def minI : List Int → Option Int
  | [] => none
  | [x] => some x
  | x :: r => match minI r with
    | some m => some (if m ≤ x then m else x)
    | none => none
def rangeL (n : Nat) (a c : Int) : List Vl :=
  match n with
  | 0 => []
  | n + 1 => .int a :: rangeL n (a + c) c
def revW (h : Hh) : Vl → Option Vl
  | .tup xs => some (.tup xs.reverse)
  | x => match (match x with | .scr xs => some xs | x => lstOf h x) with
    | some xs => some (.lst xs.reverse)
    | none => none
def rngL (xs : List Vl) : Option (List Vl) :=
  match xs with
  | [.int b] => if b.natAbs < 1000000 then some (rangeL b.toNat 0 1) else none
  | [.int a, .int b] => if a.natAbs < 1000000 then (if b.natAbs < 1000000 then some (rangeL (b - a).toNat a 1) else none) else none
  | _ => none
def dkeys (h : Hh) : Vl → Option (List Int)
  | .ref n => match h[n]? with
    | some (.dct kvs) => intsOf (kvs.map (·.1))
    | _ => none
  | _ => none
def rng3 (a b c : Int) : Option Nat :=
  match decide (c ≠ 0) && decide (c.natAbs < 1073741824) && PySem.Builtin.Range.small a b c with
  | true => some (PySem.Builtin.Range.rangeSize a b c).toNat
  | false => none
def frq : Vl → Option (Bool × List Vl)
  | .tup xs => some (true, xs)
  | .lst xs => some (false, xs)
  | .scr xs => some (false, xs)
  | _ => none
def arg1 (f : Vl → Option Vl) : List Vl → Option Vl
  | [x] => f x
  | _ => none
def arg2 (f : Vl → Vl → Option Vl) : List Vl → Option Vl
  | [x, y] => f x y
  | _ => none
def lenV (h : Hh) : Vl → Option Vl
  | .str s => if s.length ≤ line then some (.int s.length) else none
  | .ref n => match h[n]? with
    | some (.lst xs) => some (.int xs.length)
    | some (.dct xs) => some (.int xs.length)
    | _ => none
  | x => match seqOf h x with
    | some l => some (.int l.length)
    | none => none
def absV : Vl → Option Vl
  | .int i => some (.int (if i < 0 then -i else i))
  | _ => none
def max2V : Vl → Vl → Option Vl
  | .int i, .int j => some (.int (if j > i then j else i))
  | _, _ => none
def min2V : Vl → Vl → Option Vl
  | .int i, .int j => some (.int (if j < i then j else i))
  | _, _ => none
def ofInts (h : Hh) (f : List Int → Option Int) (x : Vl) : Option Vl :=
  match lstOf h x with
  | some l => match intsOf l with
    | some l => match f l with
      | some m => some (.int m)
      | none => none
    | none => none
  | none => none
def ofBls (h : Hh) (f : List Bool → Bool) (x : Vl) : Option Vl :=
  match lstOf h x with
  | some l => match blsOf l with
    | some l => some (.bl (f l))
    | none => none
  | none => none
def intV : Vl → Option Vl
  | .int i => some (.int i)
  | .bl b => some (.int (if b then 1 else 0))
  | _ => none
def tupleV (h : Hh) (x : Vl) : Option Vl :=
  match seqOf h x with
  | some l => some (.tup l)
  | none => none
inductive Kd where | non | bl | int | str | tup | lst | own (c : Nat)
def kdOf (h : Hh) : Vl → Option Kd
  | .non => some .non
  | .bl _ => some .bl
  | .int _ => some .int
  | .str _ => some .str
  | .tup _ => some .tup
  | .lst _ => some .lst
  | .ins c _ => some (.own c)
  | .ref n => match h[n]? with
    | some (.lst _) => some .lst
    | _ => none
  | _ => none
def isKd (b : Bif) (k : Kd) : Option Bool :=
  match b with
  | .isint => match k with
    | .int => some true
    | .bl => some true
    | _ => some false
  | .isbool => match k with
    | .bl => some true
    | _ => some false
  | .istuple => match k with
    | .tup => some true
    | _ => some false
  | .isstr => match k with
    | .str => some true
    | _ => some false
  | .islist => match k with
    | .lst => some true
    | _ => some false
  | .isown c => match k with
    | .own d => some (d == c)
    | _ => some false
  | _ => none
def isV (b : Bif) (h : Hh) (x : Vl) : Option Vl :=
  match kdOf h x with
  | some k => match isKd b k with
    | some c => some (.bl c)
    | none => none
  | none => none
def bifV (b : Bif) (h : Hh) (xs : List Vl) : Option Vl :=
  match b with
  | .len => arg1 (lenV h) xs
  | .abs => arg1 absV xs
  | .max2 => arg2 max2V xs
  | .min2 => arg2 min2V xs
  | .maxl => arg1 (ofInts h maxI) xs
  | .minl => arg1 (ofInts h minI) xs
  | .int => arg1 intV xs
  | .tuple => arg1 (tupleV h) xs
  | .sum => arg1 (ofInts h fun l => some (sumI l)) xs
  | .all => arg1 (ofBls h fun l => l.all id) xs
  | .any => arg1 (ofBls h fun l => l.any id) xs
  | b => arg1 (isV b h) xs
def appendV (h : Hh) (o x : Vl) : R Vl :=
  match o with
  | .ref n => match h[n]? with
    | some (.lst l) => if l.length < line then .ok .non (h.set n (.lst (l ++ [x]))) else .bad
    | _ => .bad
  | _ => .bad
def extendV (h : Hh) (o x : Vl) : R Vl :=
  match o with
  | .ref n => match h[n]? with
    | some (.lst l) => match x with
      | .lst y => if l.length + y.length ≤ line then .ok .non (h.set n (.lst (l ++ y))) else .bad
      | _ => .bad
    | _ => .bad
  | _ => .bad
def popV (h : Hh) (o : Vl) : R Vl :=
  match o with
  | .ref n => match h[n]? with
    | some (.lst l) => match l[l.length - 1]? with
      | some y => .ok y (h.set n (.lst l.dropLast))
      | none => .bad
    | _ => .bad
  | _ => .bad
def popAtV (h : Hh) (o x : Vl) : R Vl :=
  match o with
  | .ref n => match h[n]? with
    | some (.lst l) => match x with
      | .int (.ofNat k) => if k < 1000000000 then (match l[k]? with
        | some y => .ok y (h.set n (.lst (l.eraseIdx k)))
        | none => .bad) else .bad
      | _ => .bad
    | _ => .bad
  | _ => .bad
def bitsV (h : Hh) (o : Vl) : R Vl :=
  match o with
  | .int i => .ok (.int (if i = 0 then 0 else (i.natAbs.log2 + 1 : Nat))) h
  | _ => .bad
def mthV (m : Mth) (h : Hh) (o : Vl) (xs : List Vl) : R Vl :=
  match m with
  | .append => match xs with
    | [x] => appendV h o x
    | _ => .bad
  | .extend => match xs with
    | [x] => extendV h o x
    | _ => .bad
  | .pop0 => match xs with
    | [] => popV h o
    | _ => .bad
  | .pop1 => match xs with
    | [x] => popAtV h o x
    | _ => .bad
  | .bitlen => match xs with
    | [] => bitsV h o
    | _ => .bad
def rcv (m : Mth) (h : Hh) (x : Vl) : Bool :=
  match m with
  | .bitlen => true
  | _ => match x with
    | .ref n => match h[n]? with
      | some (.lst _) => true
      | _ => false
    | _ => false
def putE (env : Env) (i : Nat) (v : Vl) : Env := env.set i (some v)
def putEs : Env → List Nat → List Vl → Option Env
  | env, [], [] => some env
  | env, i :: is, v :: vs => putEs (putE env i v) is vs
  | _, _, _ => none
def tgV (tg : Tg) (v : Vl) (env : Env) : Option Env :=
  match tg with
  | .n i => some (putE env i v)
  | .t is => match v with
    | .tup xs => putEs env is xs
    | _ => none
def wipeE (env : Env) : List Nat → Env
  | [] => env
  | v :: vs => (wipeE env vs).set v none
def noX {α : Type} (r : R α) : R α :=
  match r with
  | .ok a h => .ok a h
  | _ => .bad
def compL (turn : Vl → Hh → R (Option Vl)) : List Vl → List Vl → Hh → R (List Vl)
  | [], acc, h => .ok acc h
  | x :: r, acc, h => bnd (noX (turn x h)) fun o h1 => match o with
    | some y => if acc.length < line then compL turn r (acc ++ [y]) h1 else .bad
    | none => compL turn r acc h1
inductive Wk where | its (xs : List Vl) | live (n : Nat)
def fuelW : Nat := 1000000
def compN (turn : Vl → Hh → R (Option Vl)) (n : Nat) : Nat → Nat → List Vl → Hh → R (List Vl)
  | 0, _, _, _ => .bad
  | k + 1, i, acc, h => match h[n]? with
    | some (.lst ys) => match ys[i]? with
      | some x => bnd (noX (turn x h)) fun o h1 => match o with
        | some y => if acc.length < line then compN turn n k (i + 1) (acc ++ [y]) h1 else .bad
        | none => compN turn n k (i + 1) acc h1
      | none => .ok acc h
    | _ => .bad
def walkC (turn : Vl → Hh → R (Option Vl)) (w : Wk) (h : Hh) : R (List Vl) :=
  match w with
  | .its xs => compL turn xs [] h
  | .live n => compN turn n fuelW 0 [] h
structure GT where
  gv : Nat → Option Vl            -- module names' values
  at_ : Nat → Nat → Option (Nat ⊕ Nat)   -- an attribute of a class: a slot, a property's def
  init : Nat → Option (Nat × Nat)       -- a class's __init__, how many slots it has
  exk : Nat → Option Bool    -- an error class: whether it keeps what it takes
  eqf : Nat → Option Nat     -- a class's own ==
def mapO (f : Vl → Option Vl) : List Vl → Option (List Vl)
  | [] => some []
  | x :: r => match f x with
    | some y => match mapO f r with
      | some l => some (y :: l)
      | none => none
    | none => none
def frV (h : Hh) (n0 : Nat) : Nat → Vl → Option Vl
  | 0, _ => none
  | k + 1, v => match v with
    | .tup xs => match mapO (frV h n0 k) xs with
      | some l => some (.tup l)
      | none => none
    | .lst xs => match mapO (frV h n0 k) xs with
      | some l => some (.lst l)
      | none => none
    | .ins c xs => match mapO (frV h n0 k) xs with
      | some l => some (.ins c l)
      | none => none
    | .ref n => if n < n0 then some (.ref n) else match h[n]? with
      | some (.lst xs) => match mapO (frV h n0 k) xs with
        | some l => some (.lst l)
        | none => none
      | _ => none
    | .scr _ => none
    | .dct _ => none
    | .clo _ => none
    | v => some v
mutual
def wfV (n0 : Nat) : Vl → Bool
  | .ref n => decide (n < n0)
  | .tup xs => wfL n0 xs
  | .lst xs => wfL n0 xs
  | .scr xs => wfL n0 xs
  | .dct xs => wfL n0 xs
  | .ins _ xs => wfL n0 xs
  | .clo _ => false
  | _ => true
def wfL (n0 : Nat) : List Vl → Bool
  | [] => true
  | x :: r => match wfV n0 x with
    | true => wfL n0 r
    | false => false
end
def wfK (n0 : Nat) : List (Vl × Vl) → Bool
  | [] => true
  | (a, x) :: r => match wfV n0 a with
    | true => match wfV n0 x with
      | true => wfK n0 r
      | false => false
    | false => false
def wfF (n0 : Nat) : List (Option Vl) → Bool
  | [] => true
  | some x :: r => match wfV n0 x with
    | true => wfF n0 r
    | false => false
  | none :: r => wfF n0 r
def wfO (n0 : Nat) : Ob → Bool
  | .lst xs => wfL n0 xs
  | .dct kvs => wfK n0 kvs
  | .ins _ xs => wfF n0 xs
def wfH (n0 : Nat) : Hh → Bool
  | [] => true
  | o :: r => match wfO n0 o with
    | true => wfH n0 r
    | false => false
def fin (frz : Bool) (n0 : Nat) (v : Vl) (h : Hh) : R Vl :=
  match frz with
  | false => .ok v h
  | true => match decide (h.length ≤ n0) with
    | true => .ok v h
    | false => match frV h n0 30 v with
      | some y => match wfV n0 y with
        | true => match wfH n0 (h.take n0) with
          | true => .ok y (h.take n0)
          | false => .bad
        | false => .bad
      | none => .bad
def finX (n0 : Nat) (c : Nat) (p : Option Vl) (h : Hh) : R Vl :=
  match decide (h.length ≤ n0) with
  | true => .exc c p h
  | false => match p with
    | none => match wfH n0 (h.take n0) with
      | true => .exc c none (h.take n0)
      | false => .bad
    | some v => match frV h n0 30 v with
      | some y => match wfV n0 y with
        | true => match wfH n0 (h.take n0) with
          | true => .exc c (some y) (h.take n0)
          | false => .bad
        | false => .bad
      | none => .bad
def allSome : List (Option Vl) → Option (List Vl)
  | [] => some []
  | some x :: r => match allSome r with
    | some l => some (x :: l)
    | none => none
  | none :: _ => none
def made (c n : Nat) (v : Vl) (h : Hh) : R Vl :=
  match v with
  | .non => match decide (h.length = n + 1) with
    | true => match h[n]? with
      | some (.ins c' xs) => match decide (c' = c) with
        | true => match allSome xs with
          | some l => match wfL n l with
            | true => match wfH n (h.take n) with
              | true => .ok (.ins c l) (h.take n)
              | false => .bad
            | false => .bad
          | none => .bad
        | false => .bad
      | _ => .bad
    | false => .bad
  | _ => .bad
abbrev CF := Nat → List Vl → Hh → R Vl
def isownR (c : Nat) (x : Vl) (h : Hh) : R Vl := match kdOf h x with
  | some (.own d) => .ok (.bl (d == c)) h
  | some _ => .ok (.bl false) h
  | none => .bad
def ocmpR (G : GT) (cf : CF) (neg : Bool) (x y : Vl) (h : Hh) : R Vl := match x with
  | .ins c _ => match G.eqf c with
    | some g => match kdOf h y with
      | some _ => bnd (noX (cf g [x, y] h)) fun v h => match v with
        | .bl r => .ok (.bl (r != neg)) h
        | _ => .bad
      | none => .bad
    | none => .bad
  | _ => .bad
def attrR (G : GT) (cf : CF) (f : Nat) (x : Vl) (h : Hh) : R Vl := match x with
  | .ins c xs => match G.at_ c f with
    | some (.inl i) => lift xs[i]? h
    | some (.inr g) => noX (cf g [x] h)
    | none => .bad
  | .ref n => match h[n]? with
    | some (.ins c xs) => match G.at_ c f with
      | some (.inl i) => match xs[i]? with
        | some (some v) => .ok v h
        | _ => .bad
      | some (.inr g) => noX (cf g [x] h)
      | none => .bad
    | _ => .bad
  | _ => .bad
mutual
def evE (G : GT) (cf : CF) : Ex → Env → Hh → R Vl
  | .var i, env, h => match env[i]? with
    | some (some v) => .ok v h
    | _ => .bad
  | .int i, _, h => .ok (.int i) h
  | .bl b, _, h => .ok (.bl b) h
  | .non, _, h => .ok .non h
  | .str s, _, h => .ok (.str s) h
  | .gl g, _, h => lift (G.gv g) h
  | .bin o a b, env, h => bnd (evE G cf a env h) fun x h => bnd (evE G cf b env h) fun y h => lift (binV o h x y) h
  | .neg a, env, h => bnd (evE G cf a env h) fun x h => match x with
    | .int i => .ok (.int (-i)) h
    | _ => .bad
  | .cmp o a b, env, h => bnd (evE G cf a env h) fun x h => bnd (evE G cf b env h) fun y h => match cmpV o h x y with
    | some c => .ok (.bl c) h
    | none => .bad
  | .chain o p a b c, env, h => bnd (evE G cf a env h) fun x h => bnd (evE G cf b env h) fun y h => match cmpV o h x y with
    | some true => bnd (evE G cf c env h) fun z h => match cmpV p h y z with
      | some d => .ok (.bl d) h
      | none => .bad
    | some false => .ok (.bl false) h
    | none => .bad
  | .and a b, env, h => bnd (evE G cf a env h) fun x h => match x with
    | .bl true => evE G cf b env h
    | .bl false => .ok (.bl false) h
    | _ => .bad
  | .or a b, env, h => bnd (evE G cf a env h) fun x h => match x with
    | .bl true => .ok (.bl true) h
    | .bl false => evE G cf b env h
    | _ => .bad
  | .not a, env, h => bnd (evE G cf a env h) fun x h => match truth h x with
    | some b => .ok (.bl (!b)) h
    | none => .bad
  | .ite c a b, env, h => bnd (evE G cf c env h) fun x h => match truth h x with
    | some true => evE G cf a env h
    | some false => evE G cf b env h
    | none => .bad
  | .tup as, env, h => bnd (evA G cf as env h) fun xs h => match decide (xs.length ≤ line) with
    | true => .ok (.tup xs) h
    | false => .bad
  | .fz f, env, h => bnd (evF G cf f env h) fun xs h => .ok (.lst xs) h
  | .th f, env, h => bnd (evF G cf f env h) fun xs h => .ok (.ref h.length) (h ++ [.lst xs])
  | .sub a i, env, h => bnd (evE G cf a env h) fun x h => bnd (evE G cf i env h) fun y h => lift (subV h x y) h
  | .slc a lo hi, env, h => bnd (evE G cf a env h) fun x h => bnd (evO G cf lo env h) fun l h => bnd (evO G cf hi env h) fun u h => lift (cutW h x l u) h
  | .call f as, env, h => bnd (evA G cf as env h) fun xs h => cf f xs h
  | .callv i as, env, h => match env[i]? with
    | some (some (.fn f)) => bnd (evA G cf as env h) fun xs h => cf f xs h
    | _ => .bad
  | .mk c as, env, h => match G.init c with
    | some (f, k) => bnd (evA G cf as env h) fun xs h => bnd (cf f (.ref h.length :: xs) (h ++ [.ins c (List.replicate k none)])) fun v h' => made c h.length v h'
    | none => .bad
  | .bif b as, env, h => bnd (evA G cf as env h) fun xs h => lift (bifV b h xs) h
  | .mth m o as, env, h => bnd (evE G cf o env h) fun x h => match rcv m h x with
    | true => bnd (evA G cf as env h) fun xs h => mthV m h x xs
    | false => .bad
  | .rev a, env, h => bnd (evE G cf a env h) fun x h => lift (revW h x) h
  | .dnew, _, h => .ok (.ref h.length) (h ++ [.dct []])
  | .trg as, env, h => bnd (evA G cf as env h) fun xs h => match rngL xs with
    | some l => .ok (.tup l) h
    | none => .bad
  | .attr o f, env, h => bnd (evE G cf o env h) (attrR G cf f)
  | .isown c e, env, h => bnd (evE G cf e env h) (isownR c)
  | .ocmp neg a b, env, h => bnd (evE G cf a env h) fun x h => bnd (evE G cf b env h) fun y h => ocmpR G cf neg x y h
  | _, _, _ => .bad
def evA (G : GT) (cf : CF) : Ex → Env → Hh → R (List Vl)
  | .anil, _, h => .ok [] h
  | .acons e r, env, h => bnd (evE G cf e env h) fun x h => bnd (evA G cf r env h) fun xs h => .ok (x :: xs) h
  | .astar e r, env, h => bnd (evE G cf e env h) fun x h => match seqOf h x with
    | some ys => bnd (evA G cf r env h) fun xs h => .ok (ys ++ xs) h
    | none => .bad
  | _, _, _ => .bad
def evF (G : GT) (cf : CF) : Ex → Env → Hh → R (List Vl)
  | .disp as, env, h => bnd (evA G cf as env h) fun xs h => match decide (xs.length ≤ line) with
    | true => .ok xs h
    | false => .bad
  | .comp own tg it c e, env, h => bnd (evW G cf it env h) fun w h => walkC (fun x h => match tgV tg x (wipeE env own) with
      | some env' => bnd (evC G cf c env' h) fun b h => match b with
        | true => bnd (evE G cf e env' h) fun y h => .ok (some y) h
        | false => .ok none h
      | none => .bad) w h
  | .listof e, env, h => bnd (evE G cf e env h) fun x h => lift (seqOf h x) h
  | .srt rev e, env, h => bnd (evE G cf e env h) fun x h => match lstOf h x with
    | some l => match intsOf l with
      | some l => match rev with
        | true => .ok ((sortI l).reverse.map .int) h
        | false => .ok ((sortI l).map .int) h
      | none => .bad
    | none => match dkeys h x with
      | some ks => match rev with
        | true => .bad
        | false => match decide (ks.length < 64) with
          | true => .ok ((sortI ks).map .int) h
          | false => .bad
      | none => .bad
  | .lrg as, env, h => bnd (evA G cf as env h) fun xs h => lift (rngL xs) h
  | .cat a b, env, h => bnd (evE G cf a env h) fun x h => bnd (evE G cf b env h) fun y h => lift (catV h x y) h
  | .rep a b, env, h => bnd (evE G cf a env h) fun x h => bnd (evE G cf b env h) fun y h => lift (repV h x y) h
  | .slf a lo hi, env, h => bnd (evE G cf a env h) fun x h => bnd (evO G cf lo env h) fun l h => bnd (evO G cf hi env h) fun u h => match lstOf h x with
    | some xs => .ok (cut xs l u) h
    | none => .bad
  | _, _, _ => .bad
def evW (G : GT) (cf : CF) : Ex → Env → Hh → R Wk
  | .over e, env, h => bnd (evE G cf e env h) fun x h => match x with
    | .tup xs => .ok (.its xs) h
    | .lst xs => .ok (.its xs) h
    | .scr xs => .ok (.its xs) h
    | .ref n => match h[n]? with
      | some (.lst _) => .ok (.live n) h
      | _ => .bad
    | _ => .bad
  | .range as, env, h => bnd (evA G cf as env h) fun xs h => match xs with
    | [.int b] => match decide (b.natAbs < 1000000000) with
      | true => .ok (.its (rangeL b.toNat 0 1)) h
      | false => .bad
    | [.int a, .int b] => match decide (a.natAbs < 1000000000) with
      | true => match decide (b.natAbs < 1000000000) with
        | true => .ok (.its (rangeL (b - a).toNat a 1)) h
        | false => .bad
      | false => .bad
    | [.int a, .int b, .int c] => match rng3 a b c with
      | some n => .ok (.its (rangeL n a c)) h
      | none => .bad
    | _ => .bad
  | .enum e, env, h => bnd (evE G cf e env h) fun x h => match frq x with
    | some (_, xs) => .ok (.its (List.zipWith (fun i v => .tup [i, v]) (rangeL xs.length 0 1) xs)) h
    | none => .bad
  | .zip a b, env, h => bnd (evE G cf a env h) fun x h => bnd (evE G cf b env h) fun y h => match frq x with
    | some (_, xs) => match frq y with
      | some (_, ys) => .ok (.its (List.zipWith (fun u v => .tup [u, v]) xs ys)) h
      | none => .bad
    | none => .bad
  | _, _, _ => .bad
def evO (G : GT) (cf : CF) : Ex → Env → Hh → R (Option Int)
  | .noe, _, h => .ok none h
  | .sm e, env, h => bnd (evE G cf e env h) fun x h => match x with
    | .int i => .ok (some i) h
    | _ => .bad
  | _, _, _ => .bad
def evC (G : GT) (cf : CF) : Ex → Env → Hh → R Bool
  | .noe, _, h => .ok true h
  | .sm e, env, h => bnd (evE G cf e env h) fun x h => lift (truth h x) h
  | _, _, _ => .bad
end
inductive Oc where
  | nx (env : Env)
  | rt (v : Vl)
  | bk (env : Env)
  | ct (env : Env)
def bndS (r : R Oc) (f : Env → Hh → R Oc) : R Oc :=
  match r with
  | .ok (.nx env) h => f env h
  | r => r
def forL (turn : Vl → Env → Hh → R Oc) : List Vl → Env → Hh → R Oc
  | [], env, h => .ok (.nx env) h
  | x :: r, env, h => match turn x env h with
    | .ok (.nx env1) h1 => forL turn r env1 h1
    | .ok (.ct env1) h1 => forL turn r env1 h1
    | .ok (.bk env1) h1 => .ok (.nx env1) h1
    | .ok (.rt v) h1 => .ok (.rt v) h1
    | .exc c p h1 => .exc c p h1
    | .bad => .bad
def forN (turn : Vl → Env → Hh → R Oc) (n : Nat) : Nat → Nat → Env → Hh → R Oc
  | 0, _, _, _ => .bad
  | k + 1, i, env, h => match h[n]? with
    | some (.lst ys) => match ys[i]? with
      | some x => match turn x env h with
        | .ok (.nx env1) h1 => forN turn n k (i + 1) env1 h1
        | .ok (.ct env1) h1 => forN turn n k (i + 1) env1 h1
        | .ok (.bk env1) h1 => .ok (.nx env1) h1
        | .ok (.rt v) h1 => .ok (.rt v) h1
        | .exc c p h1 => .exc c p h1
        | .bad => .bad
      | none => .ok (.nx env) h
    | _ => .bad
def walkF (turn : Vl → Env → Hh → R Oc) (w : Wk) (env : Env) (h : Hh) : R Oc :=
  match w with
  | .its xs => forL turn xs env h
  | .live n => forN turn n fuelW 0 env h
def whileL (test : Env → Hh → R Bool) (body : Env → Hh → R Oc) : Nat → Env → Hh → R Oc
  | 0, _, _ => .bad
  | k + 1, env, h => match test env h with
    | .ok true h1 => match body env h1 with
      | .ok (.nx env2) h2 => whileL test body k env2 h2
      | .ok (.ct env2) h2 => whileL test body k env2 h2
      | .ok (.bk env2) h2 => .ok (.nx env2) h2
      | .ok (.rt v) h2 => .ok (.rt v) h2
      | .exc c p h2 => .exc c p h2
      | .bad => .bad
    | .ok false h1 => .ok (.nx env) h1
    | .exc c p h1 => .exc c p h1
    | .bad => .bad
def setV (h : Hh) (o i v : Vl) : Option Hh :=
  match o with
  | .ref n => match h[n]? with
    | some (.lst xs) => match i with
      | .int k => match ixN xs.length k with
        | some j => some (h.set n (.lst (xs.set j v)))
        | none => none
      | _ => none
    | some (.dct kvs) => match keyOk i with
      | true => if kvs.length < line then some (h.set n (.dct (dput i v kvs))) else none
      | false => none
    | _ => none
  | _ => none
def setF (G : GT) (h : Hh) (o : Vl) (f : Nat) (v : Vl) : Option Hh :=
  match o with
  | .ref n => match h[n]? with
    | some (.ins c xs) => match G.at_ c f with
      | some (.inl i) => if i < xs.length then some (h.set n (.ins c (xs.set i (some v)))) else none
      | _ => none
    | _ => none
  | _ => none
def setFs (G : GT) (h : Hh) (o : Vl) : List Nat → List Vl → Option Hh
  | [], [] => some h
  | f :: fs, v :: vs => match setF G h o f v with
    | some h => setFs G h o fs vs
    | none => none
  | _, _ => none
def evS (G : GT) (cf : CF) : St → Env → Hh → R Oc
  | .skip, env, h => .ok (.nx env) h
  | .never, _, _ => .bad
  | .seq a b, env, h => bndS (evS G cf a env h) fun env h => evS G cf b env h
  | .ex e, env, h => bnd (evE G cf e env h) fun _ h => .ok (.nx env) h
  | .set i e, env, h => bnd (evE G cf e env h) fun v h => .ok (.nx (putE env i v)) h
  | .par is as, env, h => bnd (evA G cf as env h) fun vs h => match putEs env is vs with
    | some env' => .ok (.nx env') h
    | none => .bad
  | .unp is e, env, h => bnd (evE G cf e env h) fun v h => match tgV (.t is) v env with
    | some env' => .ok (.nx env') h
    | none => .bad
  | .aug i o e, env, h => match env[i]? with
    | some (some x) => bnd (evE G cf e env h) fun y h => match augV o h x y with
      | some v => .ok (.nx (putE env i v)) h
      | none => .bad
    | _ => .bad
  | .sets o i e, env, h => bnd (evE G cf e env h) fun v h => bnd (evE G cf o env h) fun x h => bnd (evE G cf i env h) fun y h => match setV h x y v with
    | some h => .ok (.nx env) h
    | none => .bad
  | .augs o i b e, env, h => bnd (evE G cf o env h) fun x h => bnd (evE G cf i env h) fun y h => match getO h x y with
    | some z => bnd (evE G cf e env h) fun w h => match augV b h z w with
      | some v => match setV h x y v with
        | some h => .ok (.nx env) h
        | none => .bad
      | none => .bad
    | none => .bad
  | .setf o f e, env, h => bnd (evE G cf e env h) fun v h => bnd (evE G cf o env h) fun x h => match setF G h x f v with
    | some h => .ok (.nx env) h
    | none => .bad
  | .parf o fs as, env, h => match env[o]? with
    | some (some x) => bnd (evA G cf as env h) fun vs h => match setFs G h x fs vs with
      | some h => .ok (.nx env) h
      | none => .bad
    | _ => .bad
  | .ifs c a b, env, h => bnd (evE G cf c env h) fun x h => match truth h x with
    | some true => evS G cf a env h
    | some false => evS G cf b env h
    | none => .bad
  | .fors tg it b, env, h => bnd (evW G cf it env h) fun w h => walkF (fun x env h => match tgV tg x env with
    | some env' => evS G cf b env' h
    | none => .bad) w env h
  | .whiles c b, env, h => whileL (fun env h => bnd (evE G cf c env h) fun x h => lift (truth h x) h) (fun env h => evS G cf b env h) fuelW env h
  | .ret e, env, h => bnd (evE G cf e env h) fun v h => .ok (.rt v) h
  | .brk, env, h => .ok (.bk env) h
  | .cnt, env, h => .ok (.ct env) h
  | .raise c as, env, h => bnd (evA G cf as env h) fun vs h => match vs with
    | [v] => match G.exk c with
      | some true => .exc c (some v) h
      | some false => .exc c none h
      | none => .bad
    | _ => .bad
structure FD where
  ar : Nat
  sl : Nat
  frz : Bool
  body : St
def endF (frz : Bool) (n0 : Nat) (r : R Oc) : R Vl :=
  match r with
  | .ok (.rt v) h => fin frz n0 v h
  | .ok (.nx _) h => fin frz n0 .non h
  | .ok _ _ => .bad
  | .exc c p h => finX n0 c p h
  | .bad => .bad
def run (G : GT) (ft : Nat → Option FD) : Nat → CF
  | 0 => fun _ _ _ => .bad
  | n + 1 => fun f args h => match ft f with
    | some d => match decide (args.length = d.ar) with
      | true => endF d.frz h.length (evS G (run G ft n) d.body (args.map some ++ List.replicate (d.sl - d.ar) none) h)
      | false => .bad
    | none => .bad
end Mi
set_option Elab.async false
set_option linter.all false
set_option maxRecDepth 100000
set_option maxHeartbeats 4000000
namespace Mi
open PySem L2
structure Gm where
  P : Program
  w : World
  K : PySem.W.Frag
  mg : Str → Option Value
  base : Heap
  fa : Nat → Addr
  ca : Nat → Addr
  xa : Nat → Addr
  xf : Nat → Str
  cok : Nat → Bool
def ScL (K : PySem.W.Frag) (L m : List Addr) (H : Hp) (a : Addr) (us : List V) : Prop :=
  (∃ o, H a = some (.frz o (.lst us))) ∨ (∃ o its n, K.lookup a = some o ∧ o.cls = .type "list" ∧ o.dict = none ∧ o.data = .seq its n ∧ its.size ≤ sizeLine ∧ Vals us its.toList)
mutual
def RepV (Γ : Gm) (L m : List Addr) (H : Hp) : Vl → V → Prop
  | .non, v => v = .non
  | .bl b, v => v = .bl b
  | .int i, v => v = .int i
  | .str s, v => v = .str ⟨s.toArray⟩
  | .tup xs, v => ∃ a us, v = .ref a ∧ SqT Γ.K H a us ∧ RepL Γ L m H xs us
  | .lst xs, v => ∃ a us, v = .ref a ∧ H a = some (.lst us) ∧ a ∉ m ∧ a ∉ L ∧ RepL Γ L m H xs us
  | .scr xs, v => ∃ a us, v = .ref a ∧ ScL Γ.K L m H a us ∧ RepL Γ L m H xs us
  | .ins c xs, v => ∃ a dx vs us, v = .ref a ∧ SlAt H a (Γ.ca c) dx vs ∧ a ∉ m ∧ a ∉ L ∧ dx ∉ m ∧ dx ∉ L ∧ (Γ.cok c = true ∧ ∀ (i : Nat) (u : V), us[i]? = some u → vs[i]? = some (some u)) ∧ RepL Γ L m H xs us
  | .dct _, _ => False
  | .ref n, v => ∃ a, v = .ref a ∧ m[n]? = some a
  | .fn g, v => v = .ref (Γ.fa g)
  | .clo _, _ => False
def RepL (Γ : Gm) (L m : List Addr) (H : Hp) : List Vl → List V → Prop
  | [], [] => True
  | x :: xs, u :: us => RepV Γ L m H x u ∧ RepL Γ L m H xs us
  | _, _ => False
end
structure Grow (m : List Addr) (H : Hp) (m' : List Addr) (H' : Hp) : Prop where
  ext : ∃ t, m' = m ++ t ∧ ∀ a ∈ t, H a = none
  keep : ∀ a o, H a = some o → a ∉ m → H' a = some o
  tup : ∀ a us, H a = some (.tup us) → H' a = some (.tup us)
  frz : ∀ a o u, H a = some (.frz o u) → H' a = some (.frz o u)
  own : ∀ a x, H a = some (.own x) → H' a = some (.own x)
theorem Grow.refl (m : List Addr) (H : Hp) : Grow m H m H := ⟨⟨[], by simp, fun _ h => nomatch h⟩, fun _ _ h _ => h, fun _ _ h => h, fun _ _ _ h => h, fun _ _ h => h⟩
theorem free_back {m m1 : List Addr} {H H1 : Hp} (g : Grow m H m1 H1) {a : Addr} (h : H1 a = none) : H a = none ∨ a ∈ m := by
  by_cases ha : a ∈ m
  · exact .inr ha
  · left
    cases e : H a with
    | none => rfl
    | some o =>
      have := g.keep a o e ha
      rw [h] at this
      cases this
theorem Grow.mem {m m1 : List Addr} {H H1 : Hp} (g : Grow m H m1 H1) {a : Addr} (h : a ∈ m) : a ∈ m1 := by
  obtain ⟨t, e, _⟩ := g.ext
  rw [e]
  exact List.mem_append_left _ h
theorem Grow.get {m m1 : List Addr} {H H1 : Hp} (g : Grow m H m1 H1) {n : Nat} {a : Addr} (h : m[n]? = some a) : m1[n]? = some a := by
  obtain ⟨t, e, _⟩ := g.ext
  rw [e, List.getElem?_append_left (List.getElem?_eq_some_iff.mp h).1]
  exact h
theorem Grow.out {m m1 : List Addr} {H H1 : Hp} (g : Grow m H m1 H1) {a : Addr} {o : HO} (h : H a = some o) (n : a ∉ m) : a ∉ m1 := by
  obtain ⟨t, e, f⟩ := g.ext
  rw [e]
  intro z
  rcases List.mem_append.mp z with z | z
  · exact n z
  · rw [f a z] at h
    cases h
theorem Grow.trans {m m1 m2 : List Addr} {H H1 H2 : Hp} (a : Grow m H m1 H1) (b : Grow m1 H1 m2 H2) (hm : ∀ x ∈ m, ∃ o, H1 x = some o) : Grow m H m2 H2 where
  ext := by
    obtain ⟨t, e, f⟩ := a.ext
    obtain ⟨t', e', f'⟩ := b.ext
    refine ⟨t ++ t', by rw [e', e, List.append_assoc], fun x hx => ?_⟩
    rcases List.mem_append.mp hx with hx | hx
    · exact f x hx
    · rcases free_back a (f' x hx) with z | z
      · exact z
      · obtain ⟨o, ho⟩ := hm x z
        rw [f' x hx] at ho
        cases ho
  keep := fun x o h n => b.keep x o (a.keep x o h n) (a.out h n)
  tup := fun x us h => b.tup x us (a.tup x us h)
  frz := fun x o u h => b.frz x o u (a.frz x o u h)
  own := fun x y h => b.own x y (a.own x y h)
section
variable {Γ : Gm} {L m m1 : List Addr} {H H1 : Hp}
theorem sqT_grow {a : Addr} {us : List V} (g : Grow m H m1 H1) (h : SqT Γ.K H a us) : SqT Γ.K H1 a us := by
  rcases h with (h | ⟨o, h⟩) | h
  · exact .inl (.inl (g.tup _ _ h))
  · exact .inl (.inr ⟨o, g.frz _ _ _ h⟩)
  · exact .inr h
theorem slAt_grow {a C dx : Addr} {vs : List (Option V)} (g : Grow m H m1 H1) (h : SlAt H a C dx vs) (n : a ∉ m) : SlAt H1 a C dx vs := by
  obtain ⟨h1, h2, h3⟩ := h
  refine ⟨g.own _ _ h1, h2, ?_⟩
  rcases h3 with h3 | ⟨e, h3⟩
  · exact .inl (g.keep _ _ h3 n)
  · exact .inr ⟨e, g.keep _ _ h3 n⟩
theorem SlAt.there {H : Hp} {a C dx : Addr} {vs : List (Option V)} (h : SlAt H a C dx vs) : ∃ o, H a = some o := by
  rcases h.2.2 with e | ⟨_, e⟩ <;> exact ⟨_, e⟩
mutual
theorem RepV.grow (g : Grow m H m1 H1) : ∀ {x : Vl} {v : V}, RepV Γ L m H x v → RepV Γ L m1 H1 x v
  | .non, _, h => h
  | .bl _, _, h => h
  | .int _, _, h => h
  | .str _, _, h => h
  | .tup _, _, h => by
    obtain ⟨a, us, e, q, r⟩ := h
    exact ⟨a, us, e, sqT_grow g q, RepL.grow g r⟩
  | .lst _, _, h => by
    obtain ⟨a, us, e, q, n, n2, r⟩ := h
    exact ⟨a, us, e, g.keep _ _ q n, g.out q n, n2, RepL.grow g r⟩
  | .scr _, _, h => by
    obtain ⟨a, us, e, q, r⟩ := h
    refine ⟨a, us, e, ?_, RepL.grow g r⟩
    rcases q with ⟨o, q⟩ | q
    · exact .inl ⟨o, g.frz _ _ _ q⟩
    · exact .inr q
  | .ins _ _, _, h => by
    obtain ⟨a, dx, vs, us, e, q, n1, n2, n3, n4, f, r⟩ := h
    obtain ⟨o, ho⟩ := SlAt.there q
    exact ⟨a, dx, vs, us, e, slAt_grow g q n1, g.out ho n1, n2, g.out q.1 n3, n4, f, RepL.grow g r⟩
  | .dct _, _, h => h.elim
  | .ref _, _, h => by
    obtain ⟨a, e, q⟩ := h
    exact ⟨a, e, g.get q⟩
  | .fn _, _, h => h
  | .clo _, _, h => h.elim
theorem RepL.grow (g : Grow m H m1 H1) : ∀ {xs : List Vl} {vs : List V}, RepL Γ L m H xs vs → RepL Γ L m1 H1 xs vs
  | [], [], _ => trivial
  | _ :: _, _ :: _, h => ⟨RepV.grow g h.1, RepL.grow g h.2⟩
  | [], _ :: _, h => h.elim
  | _ :: _, [], h => h.elim
end
mutual
theorem RepV.apart {D : Addr} (hD : H D = none) : ∀ {x : Vl} {v : V}, RepV Γ L m H x v → RepV Γ (D :: L) m H x v
  | .non, _, h => h
  | .bl _, _, h => h
  | .int _, _, h => h
  | .str _, _, h => h
  | .tup _, _, h => by
    obtain ⟨a, us, e, q, r⟩ := h
    exact ⟨a, us, e, q, RepL.apart hD r⟩
  | .lst _, _, h => by
    obtain ⟨a, us, e, q, n, n2, r⟩ := h
    exact ⟨a, us, e, q, n, fun z => (List.mem_cons.mp z).elim (fun z => ne_of_none q hD z) n2, RepL.apart hD r⟩
  | .scr _, _, h => by
    obtain ⟨a, us, e, q, r⟩ := h
    exact ⟨a, us, e, q, RepL.apart hD r⟩
  | .ins _ _, _, h => by
    obtain ⟨a, dx, vs, us, e, q, n1, n2, n3, n4, f, r⟩ := h
    obtain ⟨o, ho⟩ := SlAt.there q
    exact ⟨a, dx, vs, us, e, q, n1, fun z => (List.mem_cons.mp z).elim (fun z => ne_of_none ho hD z) n2, n3, fun z => (List.mem_cons.mp z).elim (fun z => ne_of_none q.1 hD z) n4, f, RepL.apart hD r⟩
  | .dct _, _, h => h.elim
  | .ref _, _, h => h
  | .fn _, _, h => h
  | .clo _, _, h => h.elim
theorem RepL.apart {D : Addr} (hD : H D = none) : ∀ {xs : List Vl} {vs : List V}, RepL Γ L m H xs vs → RepL Γ (D :: L) m H xs vs
  | [], [], _ => trivial
  | _ :: _, _ :: _, h => ⟨RepV.apart hD h.1, RepL.apart hD h.2⟩
  | [], _ :: _, h => h.elim
  | _ :: _, [], h => h.elim
end
mutual
theorem RepV.joined {D : Addr} : ∀ {x : Vl} {v : V}, RepV Γ (D :: L) m H x v → RepV Γ L m H x v
  | .non, _, h => h
  | .bl _, _, h => h
  | .int _, _, h => h
  | .str _, _, h => h
  | .tup _, _, h => by
    obtain ⟨a, us, e, q, r⟩ := h
    exact ⟨a, us, e, q, RepL.joined r⟩
  | .lst _, _, h => by
    obtain ⟨a, us, e, q, n, n2, r⟩ := h
    exact ⟨a, us, e, q, n, fun z => n2 (List.mem_cons_of_mem _ z), RepL.joined r⟩
  | .scr _, _, h => by
    obtain ⟨a, us, e, q, r⟩ := h
    exact ⟨a, us, e, q, RepL.joined r⟩
  | .ins _ _, _, h => by
    obtain ⟨a, dx, vs, us, e, q, n1, n2, n3, n4, f, r⟩ := h
    exact ⟨a, dx, vs, us, e, q, n1, fun z => n2 (List.mem_cons_of_mem _ z), n3, fun z => n4 (List.mem_cons_of_mem _ z), f, RepL.joined r⟩
  | .dct _, _, h => h.elim
  | .ref _, _, h => h
  | .fn _, _, h => h
  | .clo _, _, h => h.elim
theorem RepL.joined {D : Addr} : ∀ {xs : List Vl} {vs : List V}, RepL Γ (D :: L) m H xs vs → RepL Γ L m H xs vs
  | [], [], _ => trivial
  | _ :: _, _ :: _, h => ⟨RepV.joined h.1, RepL.joined h.2⟩
  | [], _ :: _, h => h.elim
  | _ :: _, [], h => h.elim
end
theorem get_snoc {m : List Addr} {n : Nat} {a D : Addr} (h : m[n]? = some a) : (m ++ [D])[n]? = some a := by
  rw [List.getElem?_append_left (List.getElem?_eq_some_iff.mp h).1]
  exact h
mutual
theorem RepV.moved {D : Addr} : ∀ {x : Vl} {v : V}, RepV Γ (D :: L) m H x v → RepV Γ L (m ++ [D]) H x v
  | .non, _, h => h
  | .bl _, _, h => h
  | .int _, _, h => h
  | .str _, _, h => h
  | .tup _, _, h => by
    obtain ⟨a, us, e, q, r⟩ := h
    exact ⟨a, us, e, q, RepL.moved r⟩
  | .lst _, _, h => by
    obtain ⟨a, us, e, q, n, n2, r⟩ := h
    refine ⟨a, us, e, q, fun z => ?_, fun z => n2 (List.mem_cons_of_mem _ z), RepL.moved r⟩
    rcases List.mem_append.mp z with z | z
    · exact n z
    · exact n2 (List.mem_cons.mpr (.inl (List.mem_singleton.mp z)))
  | .scr _, _, h => by
    obtain ⟨a, us, e, q, r⟩ := h
    exact ⟨a, us, e, q, RepL.moved r⟩
  | .ins _ _, _, h => by
    obtain ⟨a, dx, vs, us, e, q, n1, n2, n3, n4, f, r⟩ := h
    refine ⟨a, dx, vs, us, e, q, fun z => ?_, fun z => n2 (List.mem_cons_of_mem _ z), fun z => ?_, fun z => n4 (List.mem_cons_of_mem _ z), f, RepL.moved r⟩
    · rcases List.mem_append.mp z with z | z
      · exact n1 z
      · exact n2 (List.mem_cons.mpr (.inl (List.mem_singleton.mp z)))
    · rcases List.mem_append.mp z with z | z
      · exact n3 z
      · exact n4 (List.mem_cons.mpr (.inl (List.mem_singleton.mp z)))
  | .dct _, _, h => h.elim
  | .ref _, _, h => by
    obtain ⟨a, e, q⟩ := h
    exact ⟨a, e, get_snoc q⟩
  | .fn _, _, h => h
  | .clo _, _, h => h.elim
theorem RepL.moved {D : Addr} : ∀ {xs : List Vl} {vs : List V}, RepL Γ (D :: L) m H xs vs → RepL Γ L (m ++ [D]) H xs vs
  | [], [], _ => trivial
  | _ :: _, _ :: _, h => ⟨RepV.moved h.1, RepL.moved h.2⟩
  | [], _ :: _, h => h.elim
  | _ :: _, [], h => h.elim
end
structure Chg (D : Addr) (H H' : Hp) : Prop where
  was : ∃ us, H D = some (.lst us)
  rest : ∀ a, a ≠ D → H' a = H a
theorem Chg.upd {D : Addr} {us us' : List V} (h : H D = some (.lst us)) : Chg D H (upd H D (.lst us')) := ⟨⟨us, h⟩, fun _ n => upd_ne n⟩
theorem Chg.ne {D a : Addr} {H H' : Hp} {o : HO} (c : Chg D H H') (h : H a = some o) (n : ∀ us, o ≠ .lst us) : a ≠ D := fun z => by
  obtain ⟨us, e⟩ := c.was
  rw [z, e] at h
  exact n us (Option.some.inj h).symm
theorem SlO_ne {C dx x : Addr} {vs : List (Option V)} (us : List V) : SlO C dx x vs ≠ .lst us := fun z => by
  unfold SlO at z
  cases z
theorem sqT_chg {D a : Addr} {H' : Hp} {us : List V} (c : Chg D H H') (h : SqT Γ.K H a us) : SqT Γ.K H' a us := by
  rcases h with (h | ⟨o, h⟩) | h
  · exact .inl (.inl (by rw [c.rest _ (c.ne h (fun _ z => nomatch z))]; exact h))
  · exact .inl (.inr ⟨o, by rw [c.rest _ (c.ne h (fun _ z => nomatch z))]; exact h⟩)
  · exact .inr h
theorem slAt_chg {D a C dx : Addr} {H' : Hp} {vs : List (Option V)} (c : Chg D H H') (h : SlAt H a C dx vs) : SlAt H' a C dx vs := by
  obtain ⟨h1, h2, h3⟩ := h
  refine ⟨by rw [c.rest _ (c.ne h1 (fun _ z => nomatch z))]; exact h1, h2, ?_⟩
  rcases h3 with h3 | ⟨e, h3⟩
  · exact .inl (by rw [c.rest _ (c.ne h3 SlO_ne)]; exact h3)
  · exact .inr ⟨e, by rw [c.rest _ (c.ne h3 (fun _ z => nomatch z))]; exact h3⟩
mutual
theorem RepV.chg {D : Addr} {H' : Hp} (c : Chg D H H') : ∀ {x : Vl} {v : V}, RepV Γ (D :: L) m H x v → RepV Γ (D :: L) m H' x v
  | .non, _, h => h
  | .bl _, _, h => h
  | .int _, _, h => h
  | .str _, _, h => h
  | .tup _, _, h => by
    obtain ⟨a, us, e, q, r⟩ := h
    exact ⟨a, us, e, sqT_chg c q, RepL.chg c r⟩
  | .lst _, _, h => by
    obtain ⟨a, us, e, q, n, n2, r⟩ := h
    exact ⟨a, us, e, by rw [c.rest _ (fun z => n2 (List.mem_cons.mpr (.inl z)))]; exact q, n, n2, RepL.chg c r⟩
  | .scr _, _, h => by
    obtain ⟨a, us, e, q, r⟩ := h
    refine ⟨a, us, e, ?_, RepL.chg c r⟩
    rcases q with ⟨o, q⟩ | q
    · exact .inl ⟨o, by rw [c.rest _ (c.ne q (fun _ z => nomatch z))]; exact q⟩
    · exact .inr q
  | .ins _ _, _, h => by
    obtain ⟨a, dx, vs, us, e, q, n1, n2, n3, n4, f, r⟩ := h
    exact ⟨a, dx, vs, us, e, slAt_chg c q, n1, n2, n3, n4, f, RepL.chg c r⟩
  | .dct _, _, h => h.elim
  | .ref _, _, h => h
  | .fn _, _, h => h
  | .clo _, _, h => h.elim
theorem RepL.chg {D : Addr} {H' : Hp} (c : Chg D H H') : ∀ {xs : List Vl} {vs : List V}, RepL Γ (D :: L) m H xs vs → RepL Γ (D :: L) m H' xs vs
  | [], [], _ => trivial
  | _ :: _, _ :: _, h => ⟨RepV.chg c h.1, RepL.chg c h.2⟩
  | [], _ :: _, h => h.elim
  | _ :: _, [], h => h.elim
end
theorem RepL.length : ∀ {xs : List Vl} {vs : List V}, RepL Γ L m H xs vs → xs.length = vs.length
  | [], [], _ => rfl
  | _ :: _, _ :: _, h => congrArg (· + 1) (RepL.length h.2)
  | [], _ :: _, h => h.elim
  | _ :: _, [], h => h.elim
theorem RepL.get : ∀ {xs : List Vl} {vs : List V} {i : Nat} {x : Vl}, RepL Γ L m H xs vs → xs[i]? = some x → ∃ v, vs[i]? = some v ∧ RepV Γ L m H x v
  | [], [], _, _, _, e => by simp at e
  | x :: _, v :: _, 0, _, h, e => by
    cases Option.some.inj e
    exact ⟨v, rfl, h.1⟩
  | _ :: xs, _ :: vs, i + 1, _, h, e => RepL.get (xs := xs) (vs := vs) (i := i) h.2 e
  | [], _ :: _, _, _, h, _ => h.elim
  | _ :: _, [], _, _, h, _ => h.elim
theorem RepL.of_get : ∀ {xs : List Vl} {vs : List V}, xs.length = vs.length → (∀ (i : Nat) x v, xs[i]? = some x → vs[i]? = some v → RepV Γ L m H x v) → RepL Γ L m H xs vs
  | [], [], _, _ => trivial
  | x :: xs, v :: vs, e, h => ⟨h 0 x v rfl rfl, RepL.of_get (by simpa using e) fun i y u a b => h (i + 1) y u a b⟩
  | [], _ :: _, e, _ => by simp at e
  | _ :: _, [], e, _ => by simp at e
theorem RepL.append {xs ys : List Vl} {vs ws : List V} (a : RepL Γ L m H xs vs) (b : RepL Γ L m H ys ws) : RepL Γ L m H (xs ++ ys) (vs ++ ws) := by
  induction xs generalizing vs with
  | nil => cases vs with
    | nil => exact b
    | cons _ _ => exact a.elim
  | cons x xs ih => cases vs with
    | nil => exact a.elim
    | cons v vs => exact ⟨a.1, ih a.2⟩
def RepKey : Vl → Key → Prop
  | .int i, k => k = .inl i
  | .str s, k => k = .inr ⟨s.toArray⟩
  | _, _ => False
def RepKs (Γ : Gm) (L m : List Addr) (H : Hp) : List (Vl × Vl) → List (Key × V) → Prop
  | [], [] => True
  | (a, x) :: r, (k, u) :: s => RepKey a k ∧ RepV Γ L m H x u ∧ RepKs Γ L m H r s
  | _, _ => False
def RepO (Γ : Gm) (L m : List Addr) (H : Hp) : Ob → Addr → Prop
  | .lst xs, a => ∃ us, H a = some (.lst us) ∧ RepL Γ L m H xs us
  | .dct kvs, a => ∃ us, H a = some (.dK us) ∧ RepKs Γ L m H kvs us
  | .ins c xs, a => ∃ dx vs, SlAt H a (Γ.ca c) dx vs ∧ dx ∉ m ∧ dx ∉ L ∧ ∀ (i : Nat) (x : Vl), xs[i]? = some (some x) → ∃ u, vs[i]? = some (some u) ∧ RepV Γ L m H x u
structure RepH (Γ : Gm) (L m : List Addr) (h : Hh) (H : Hp) : Prop where
  len : m.length = h.length
  nd : m.Nodup
  ap : ∀ a ∈ m, a ∉ L
  ob : ∀ (i : Nat) (a : Addr) (o : Ob), m[i]? = some a → h[i]? = some o → RepO Γ L m H o a
  res : ∀ a ∈ L, ∃ us, H a = some (.lst us)
theorem RepKs.map {Γ : Gm} {L m L1 m1 : List Addr} {H H1 : Hp} (f : ∀ x u, RepV Γ L m H x u → RepV Γ L1 m1 H1 x u) : ∀ {kvs : List (Vl × Vl)} {us : List (Key × V)}, RepKs Γ L m H kvs us → RepKs Γ L1 m1 H1 kvs us
  | [], [], _ => trivial
  | (_, _) :: _, (_, _) :: _, h => ⟨h.1, f _ _ h.2.1, RepKs.map f h.2.2⟩
  | [], _ :: _, h => h.elim
  | _ :: _, [], h => h.elim
theorem RepO.there {o : Ob} {a : Addr} (h : RepO Γ L m H o a) : ∃ u, H a = some u ∧ (∀ us, u ≠ .tup us) ∧ (∀ b us, u ≠ .frz b us) ∧ ∀ x, u ≠ .own x := by
  cases o with
  | lst xs => obtain ⟨us, e, _⟩ := h; exact ⟨_, e, fun _ z => (nomatch z), fun _ _ z => (nomatch z), fun _ z => (nomatch z)⟩
  | dct kvs => obtain ⟨us, e, _⟩ := h; exact ⟨_, e, fun _ z => (nomatch z), fun _ _ z => (nomatch z), fun _ z => (nomatch z)⟩
  | ins c xs =>
    obtain ⟨dx, vs, e, _⟩ := h
    rcases e.2.2 with e | ⟨_, e⟩
    · exact ⟨_, e, fun _ z => (by unfold SlO at z; cases z), fun _ _ z => (by unfold SlO at z; cases z), fun _ z => (by unfold SlO at z; cases z)⟩
    · exact ⟨_, e, fun _ z => (nomatch z), fun _ _ z => (nomatch z), fun _ z => (nomatch z)⟩
theorem RepO.grow {o : Ob} {a : Addr} (g : Grow m H m1 H1) (e : H1 a = H a) (h : RepO Γ L m H o a) : RepO Γ L m1 H1 o a := by
  cases o with
  | lst xs => obtain ⟨us, q, r⟩ := h; exact ⟨us, e.trans q, RepL.grow g r⟩
  | dct kvs => obtain ⟨us, q, r⟩ := h; exact ⟨us, e.trans q, r.map fun _ _ => RepV.grow g⟩
  | ins c xs =>
    obtain ⟨dx, vs, q, n1, n2, f⟩ := h
    refine ⟨dx, vs, ⟨g.own _ _ q.1, q.2.1, ?_⟩, g.out q.1 n1, n2, fun i x hx => ?_⟩
    · rw [e]
      exact q.2.2
    · obtain ⟨u, h1, h2⟩ := f i x hx
      exact ⟨u, h1, h2.grow g⟩
theorem RepO.map {L1 m2 : List Addr} {o : Ob} {a : Addr} (f : ∀ x u, RepV Γ L m H x u → RepV Γ L1 m2 H1 x u) (fl : ∀ xs us, RepL Γ L m H xs us → RepL Γ L1 m2 H1 xs us) (e : H1 a = H a)
    (fs : ∀ C dx vs, SlAt H a C dx vs → dx ∉ m → dx ∉ L → SlAt H1 a C dx vs ∧ dx ∉ m2 ∧ dx ∉ L1) (h : RepO Γ L m H o a) : RepO Γ L1 m2 H1 o a := by
  cases o with
  | lst xs => obtain ⟨us, q, r⟩ := h; exact ⟨us, e.trans q, fl _ _ r⟩
  | dct kvs => obtain ⟨us, q, r⟩ := h; exact ⟨us, e.trans q, r.map f⟩
  | ins c xs =>
    obtain ⟨dx, vs, q, n1, n2, g⟩ := h
    obtain ⟨q', n1', n2'⟩ := fs _ _ _ q n1 n2
    refine ⟨dx, vs, q', n1', n2', fun i x hx => ?_⟩
    obtain ⟨u, h1, h2⟩ := g i x hx
    exact ⟨u, h1, f _ _ h2⟩
theorem RepH.at_ {h : Hh} (r : RepH Γ L m h H) {n : Nat} {a : Addr} {o : Ob} (e : m[n]? = some a) (q : h[n]? = some o) : RepO Γ L m H o a := r.ob n a o e q
theorem RepH.addr {h : Hh} (r : RepH Γ L m h H) {n : Nat} {o : Ob} (q : h[n]? = some o) : ∃ a, m[n]? = some a ∧ RepO Γ L m H o a := by
  have hl := (List.getElem?_eq_some_iff.mp q).1
  rw [← r.len] at hl
  exact ⟨m[n], List.getElem?_eq_getElem hl, r.ob n _ o (List.getElem?_eq_getElem hl) q⟩
theorem RepH.there {h : Hh} (r : RepH Γ L m h H) {a : Addr} (ha : a ∈ m) : ∃ o, H a = some o ∧ (∀ us, o ≠ .tup us) ∧ (∀ b us, o ≠ .frz b us) ∧ ∀ x, o ≠ .own x := by
  obtain ⟨i, hi, e⟩ := List.getElem_of_mem ha
  have hl : i < h.length := by rw [← r.len]; exact hi
  exact (r.ob i a h[i] (by rw [← e]; exact List.getElem?_eq_getElem hi) (List.getElem?_eq_getElem hl)).there
theorem RepH.tracked {h : Hh} (r : RepH Γ L m h H) : ∀ x ∈ m, ∃ o, H x = some o := fun x hx => let ⟨o, e, _⟩ := r.there hx; ⟨o, e⟩
theorem Grow.fresh {p : Addr} {o : HO} (hp : H p = none) : Grow m H m (upd H p o) where
  ext := ⟨[], by simp, fun _ h => nomatch h⟩
  keep := fun a u e _ => by rw [upd_ne (ne_of_none e hp)]; exact e
  tup := fun a u e => by rw [upd_ne (ne_of_none e hp)]; exact e
  frz := fun a u v e => by rw [upd_ne (ne_of_none e hp)]; exact e
  own := fun a u e => by rw [upd_ne (ne_of_none e hp)]; exact e
theorem RepH.fresh {h : Hh} {p : Addr} {o : HO} (r : RepH Γ L m h H) (hp : H p = none) : RepH Γ L m h (upd H p o) where
  len := r.len
  nd := r.nd
  ap := r.ap
  ob := fun i a u e q => by
    have x := r.ob i a u e q
    obtain ⟨v, hv, _⟩ := x.there
    exact x.grow (Grow.fresh hp) (upd_ne (ne_of_none hv hp))
  res := fun a ha => by
    obtain ⟨us, e⟩ := r.res a ha
    exact ⟨us, by rw [upd_ne (ne_of_none e hp)]; exact e⟩
theorem Grow.alloc {p : Addr} {o : HO} (hp : H p = none) : Grow m H (m ++ [p]) (upd H p o) where
  ext := ⟨[p], rfl, fun a h => by rw [List.mem_singleton.mp h]; exact hp⟩
  keep := fun a u e _ => by rw [upd_ne (ne_of_none e hp)]; exact e
  tup := fun a u e => by rw [upd_ne (ne_of_none e hp)]; exact e
  frz := fun a u v e => by rw [upd_ne (ne_of_none e hp)]; exact e
  own := fun a u e => by rw [upd_ne (ne_of_none e hp)]; exact e
theorem Grow.write {h : Hh} {n : Nat} {a : Addr} {o : HO} (r : RepH Γ L m h H) (e : m[n]? = some a) : Grow m H m (upd H a o) := by
  have ha : a ∈ m := List.mem_of_getElem? e
  obtain ⟨u, hu, n1, n2, n3⟩ := r.there ha
  have ne : ∀ b v, H b = some v → (v ≠ u) → b ≠ a := fun b v hb hv z => by
    rw [z, hu] at hb
    exact hv (Option.some.inj hb).symm
  exact ⟨⟨[], by simp, fun _ h => nomatch h⟩, fun b v hb hn => by rw [upd_ne (show b ≠ a from fun z => hn (by rw [z]; exact ha))]; exact hb, fun b us hb => by rw [upd_ne (ne b _ hb (n1 us).symm)]; exact hb,
    fun b v us hb => by rw [upd_ne (ne b _ hb (n2 v us).symm)]; exact hb, fun b x hb => by rw [upd_ne (ne b _ hb (n3 x).symm)]; exact hb⟩
theorem RepH.write {h : Hh} {n : Nat} {a : Addr} {o : HO} {ob : Ob} (r : RepH Γ L m h H) (e : m[n]? = some a) (hn : n < h.length) (q : RepO Γ L m (upd H a o) ob a) : RepH Γ L m (h.set n ob) (upd H a o) where
  len := by rw [List.length_set]; exact r.len
  nd := r.nd
  ap := r.ap
  ob := fun i b u e1 e2 => by
    by_cases hi : i = n
    · subst hi
      rw [e] at e1
      cases e1
      rw [List.getElem?_set_self hn] at e2
      cases e2
      exact q
    · rw [List.getElem?_set_ne (Ne.symm hi)] at e2
      have nb : b ≠ a := fun z => hi (by
        subst z
        have h1 := (List.getElem?_eq_some_iff.mp e1)
        have h2 := (List.getElem?_eq_some_iff.mp e)
        exact (List.getElem_inj r.nd).mp (h1.2.trans h2.2.symm))
      exact (r.ob i b u e1 e2).grow (Grow.write r e) (upd_ne nb)
  res := fun b hb => by
    obtain ⟨us, z⟩ := r.res b hb
    exact ⟨us, by rw [upd_ne (show b ≠ a from fun w => r.ap a (List.mem_of_getElem? e) (by rw [← w]; exact hb))]; exact z⟩
theorem RepH.moved {h : Hh} {D : Addr} {xs : List Vl} {us : List V} (r : RepH Γ (D :: L) m h H) (nD : D ∉ m) (nL : D ∉ L) (e : H D = some (.lst us)) (q : RepL Γ (D :: L) m H xs us) : RepH Γ L (m ++ [D]) (h ++ [.lst xs]) H where
  len := by rw [List.length_append, List.length_append, r.len]; rfl
  nd := by
    rw [List.nodup_append]
    refine ⟨r.nd, by simp, fun a ha b hb z => ?_⟩
    rw [List.mem_singleton.mp hb] at z
    exact nD (z ▸ ha)
  ap := fun a ha => by
    rcases List.mem_append.mp ha with ha | ha
    · exact fun z => r.ap a ha (List.mem_cons_of_mem _ z)
    · rw [List.mem_singleton.mp ha]
      exact nL
  ob := fun i a o e1 e2 => by
    by_cases hi : i < m.length
    · rw [List.getElem?_append_left hi] at e1
      rw [List.getElem?_append_left (by rw [← r.len]; exact hi)] at e2
      refine (r.ob i a o e1 e2).map (fun _ _ => RepV.moved) (fun _ _ => RepL.moved) rfl (fun C dx vs s n1 n2 => ⟨s, fun z => ?_, fun z => n2 (List.mem_cons_of_mem _ z)⟩)
      rcases List.mem_append.mp z with z | z
      · exact n1 z
      · exact n2 (List.mem_cons.mpr (.inl (List.mem_singleton.mp z)))
    · have hm : i = m.length := by
        have := (List.getElem?_eq_some_iff.mp e1).1
        rw [List.length_append, List.length_singleton] at this
        omega
      subst hm
      rw [List.getElem?_append_right (Nat.le_refl _), Nat.sub_self] at e1
      rw [r.len, List.getElem?_append_right (Nat.le_refl _), Nat.sub_self] at e2
      cases e1
      cases e2
      exact ⟨us, e, q.moved⟩
  res := fun a ha => r.res a (List.mem_cons_of_mem _ ha)
theorem RepH.joined {h : Hh} {D : Addr} (r : RepH Γ (D :: L) m h H) : RepH Γ L m h H where
  len := r.len
  nd := r.nd
  ap := fun a ha z => r.ap a ha (List.mem_cons_of_mem _ z)
  ob := fun i a o e1 e2 => (r.ob i a o e1 e2).map (fun _ _ => RepV.joined) (fun _ _ => RepL.joined) rfl fun C dx vs s n1 n2 => ⟨s, n1, fun z => n2 (List.mem_cons_of_mem _ z)⟩
  res := fun a ha => r.res a (List.mem_cons_of_mem _ ha)
theorem RepH.reserve {h : Hh} {D : Addr} {us : List V} (r : RepH Γ L m h H) (hD : H D = none) : RepH Γ (D :: L) m h (upd H D (.lst us)) where
  len := r.len
  nd := r.nd
  ap := fun a ha z => by
    rcases List.mem_cons.mp z with z | z
    · obtain ⟨o, e⟩ := r.tracked a ha
      exact ne_of_none e hD z
    · exact r.ap a ha z
  ob := fun i a o e1 e2 => by
    have x := r.ob i a o e1 e2
    obtain ⟨v, hv, _⟩ := x.there
    refine x.map (fun x u z => (z.apart hD).grow (Grow.fresh hD)) (fun xs us z => (z.apart hD).grow (Grow.fresh hD)) (upd_ne (ne_of_none hv hD)) (fun C dx vs s n1 n2 => ⟨⟨?_, s.2.1, ?_⟩, n1, fun z => ?_⟩)
    · rw [upd_ne (ne_of_none s.1 hD)]
      exact s.1
    · rcases s.2.2 with e | ⟨e1, e⟩
      · exact .inl (by rw [upd_ne (ne_of_none e hD)]; exact e)
      · exact .inr ⟨e1, by rw [upd_ne (ne_of_none e hD)]; exact e⟩
    · rcases List.mem_cons.mp z with z | z
      · exact ne_of_none s.1 hD z
      · exact n2 z
  res := fun a ha => by
    rcases List.mem_cons.mp ha with z | z
    · exact ⟨us, by rw [z, upd_same]⟩
    · obtain ⟨ws, e⟩ := r.res a z
      exact ⟨ws, by rw [upd_ne (ne_of_none e hD)]; exact e⟩
end
end Mi
set_option Elab.async false
set_option linter.all false
set_option maxRecDepth 100000
set_option maxHeartbeats 4000000
namespace Mi
open PySem PySem.Spec PyProof.Rows L2
section
variable {Γ : Gm} {L m t : List Addr} {H : Hp}
theorem not_mem_left {a : Addr} (h : a ∉ m ++ t) : a ∉ m := fun z => h (List.mem_append_left _ z)
mutual
theorem RepV.shrink : ∀ {x : Vl} {v : V}, wfV m.length x = true → RepV Γ L (m ++ t) H x v → RepV Γ L m H x v
  | .non, _, _, h => h
  | .bl _, _, _, h => h
  | .int _, _, _, h => h
  | .str _, _, _, h => h
  | .tup _, _, w, h => by
    obtain ⟨a, us, e, q, r⟩ := h
    exact ⟨a, us, e, q, RepL.shrink w r⟩
  | .lst _, _, w, h => by
    obtain ⟨a, us, e, q, n, n2, r⟩ := h
    exact ⟨a, us, e, q, not_mem_left n, n2, RepL.shrink w r⟩
  | .scr _, _, w, h => by
    obtain ⟨a, us, e, q, r⟩ := h
    exact ⟨a, us, e, q, RepL.shrink w r⟩
  | .ins _ _, _, w, h => by
    obtain ⟨a, dx, vs, us, e, q, n1, n2, n3, n4, f, r⟩ := h
    exact ⟨a, dx, vs, us, e, q, not_mem_left n1, n2, not_mem_left n3, n4, f, RepL.shrink w r⟩
  | .dct _, _, _, h => h.elim
  | .ref n, _, w, h => by
    obtain ⟨a, e, q⟩ := h
    rw [List.getElem?_append_left (of_decide_eq_true (show decide (n < m.length) = true from w))] at q
    exact ⟨a, e, q⟩
  | .fn _, _, _, h => h
  | .clo _, _, _, h => h.elim
theorem RepL.shrink : ∀ {xs : List Vl} {vs : List V}, wfL m.length xs = true → RepL Γ L (m ++ t) H xs vs → RepL Γ L m H xs vs
  | [], [], _, _ => trivial
  | x :: xs, _ :: _, w, h => by
    unfold wfL at w
    split at w
    · rename_i w1
      exact ⟨RepV.shrink w1 h.1, RepL.shrink w h.2⟩
    · cases w
  | [], _ :: _, _, h => h.elim
  | _ :: _, [], _, h => h.elim
end
theorem RepKs.shrink : ∀ {kvs : List (Vl × Vl)} {us : List (Key × V)}, wfK m.length kvs = true → RepKs Γ L (m ++ t) H kvs us → RepKs Γ L m H kvs us
  | [], [], _, _ => trivial
  | (a, x) :: _, (_, _) :: _, w, h => by
    unfold wfK at w
    split at w
    · split at w
      · rename_i w1
        exact ⟨h.1, RepV.shrink w1 h.2.1, RepKs.shrink w h.2.2⟩
      · cases w
    · cases w
  | [], _ :: _, _, h => h.elim
  | _ :: _, [], _, h => h.elim
theorem wfF_get : ∀ {xs : List (Option Vl)} {n0 i : Nat} {x : Vl}, wfF n0 xs = true → xs[i]? = some (some x) → wfV n0 x = true
  | [], _, _, _, _, e => by simp at e
  | none :: r, n0, 0, x, w, e => by simp at e
  | none :: r, n0, i + 1, x, w, e => wfF_get (xs := r) (i := i) w (by simpa using e)
  | some y :: r, n0, 0, x, w, e => by
    unfold wfF at w
    split at w
    · rename_i w1
      simp at e
      subst e
      exact w1
    · cases w
  | some y :: r, n0, i + 1, x, w, e => by
    unfold wfF at w
    split at w
    · exact wfF_get (xs := r) (i := i) w (by simpa using e)
    · cases w
theorem RepO.shrink {o : Ob} {a : Addr} (w : wfO m.length o = true) (h : RepO Γ L (m ++ t) H o a) : RepO Γ L m H o a := by
  cases o with
  | lst xs => obtain ⟨us, e, r⟩ := h; exact ⟨us, e, RepL.shrink w r⟩
  | dct kvs => obtain ⟨us, e, r⟩ := h; exact ⟨us, e, RepKs.shrink w r⟩
  | ins c xs =>
    obtain ⟨dx, vs, q, n1, n2, f⟩ := h
    refine ⟨dx, vs, q, not_mem_left n1, n2, fun i x hx => ?_⟩
    obtain ⟨u, h1, h2⟩ := f i x hx
    exact ⟨u, h1, RepV.shrink (wfF_get w hx) h2⟩
theorem wfH_get : ∀ {h : Hh} {n0 i : Nat} {o : Ob}, wfH n0 h = true → h[i]? = some o → wfO n0 o = true
  | [], _, _, _, _, e => by simp at e
  | x :: r, n0, 0, o, w, e => by
    unfold wfH at w
    split at w
    · rename_i w1
      simp at e
      subst e
      exact w1
    · cases w
  | x :: r, n0, i + 1, o, w, e => by
    unfold wfH at w
    split at w
    · exact wfH_get (h := r) (i := i) w (by simpa using e)
    · cases w
theorem RepH.shrink {h : Hh} (r : RepH Γ L (m ++ t) h H) (w : wfH m.length (h.take m.length) = true) : RepH Γ L m (h.take m.length) H where
  len := by
    have := r.len
    rw [List.length_append] at this
    rw [List.length_take]
    omega
  nd := (List.nodup_append.mp r.nd).1
  ap := fun a ha => r.ap a (List.mem_append_left _ ha)
  ob := fun i a o e1 e2 => by
    have hi := (List.getElem?_eq_some_iff.mp e1).1
    refine RepO.shrink (wfH_get w e2) (r.ob i a o (by rw [List.getElem?_append_left hi]; exact e1) ?_)
    rw [List.getElem?_take] at e2
    rw [if_pos hi] at e2
    exact e2
  res := r.res
end
end Mi
set_option Elab.async false
set_option linter.all false
set_option maxRecDepth 100000
set_option maxHeartbeats 4000000
namespace Mi
open PySem L2
def okV (Γ : Gm) (L m : List Addr) (H : Hp) (h : Hh) (v : Vl) (Q : VK) : Prop := ∀ m' H' u, Grow m H m' H' → RepH Γ L m' h H' → RepV Γ L m' H' v u → Q u H'
section
variable {Γ : Gm} {L m : List Addr} {H : Hp} {h : Hh} {v : Vl} {Q : VK}
theorem okV.now {u : V} (k : okV Γ L m H h v Q) (r : RepH Γ L m h H) (e : RepV Γ L m H v u) : Q u H := k m H u (Grow.refl m H) r e
theorem okV.new {p : Addr} {o : HO} {u : V} (k : okV Γ L m H h v Q) (r : RepH Γ L m h H) (hp : H p = none) (e : RepV Γ L m (upd H p o) v u) : Q u (upd H p o) := k m _ u (Grow.fresh hp) (r.fresh hp) e
theorem RepL.grow' {m' : List Addr} {H' : Hp} {xs : List Vl} {us : List V} (g : Grow m H m' H') (r : RepL Γ L m H xs us) : RepL Γ L m' H' xs us := RepL.grow g r
theorem okV.newT {p : Addr} {xs : List Vl} {us : List V} (k : okV Γ L m H h (.tup xs) Q) (r : RepH Γ L m h H) (hp : H p = none) (e : RepL Γ L m H xs us) : Q (.ref p) (upd H p (.tup us)) :=
  k.new r hp ⟨p, us, rfl, .inl (.inl upd_same), RepL.grow (Grow.fresh hp) e⟩
theorem RepH.out {p : Addr} (r : RepH Γ L m h H) (hp : H p = none) : p ∉ m ∧ p ∉ L := by
  refine ⟨fun z => ?_, fun z => ?_⟩
  · obtain ⟨o, e⟩ := r.tracked p z
    rw [hp] at e
    cases e
  · obtain ⟨us, e⟩ := r.res p z
    rw [hp] at e
    cases e
theorem okV.newL {p : Addr} {xs : List Vl} {us : List V} (k : okV Γ L m H h (.lst xs) Q) (r : RepH Γ L m h H) (hp : H p = none) (e : RepL Γ L m H xs us) : Q (.ref p) (upd H p (.lst us)) :=
  k.new r hp ⟨p, us, rfl, upd_same, (r.out hp).1, (r.out hp).2, RepL.grow (Grow.fresh hp) e⟩
end
def bo : BO → Operator
  | .add => .Add | .sub => .Sub | .mul => .Mult | .fdiv => .FloorDiv | .mod => .Mod | .pow => .Pow | .shl => .LShift | .shr => .RShift | .and => .BitAnd | .or => .BitOr | .xor => .BitXor
theorem natOf_some {i : Int} {n : Nat} (e : natOf i = some n) : i = (n : Int) := by
  cases i with
  | ofNat k => cases Option.some.inj e; rfl
  | negSucc k => cases e
theorem line_eq : line = sizeLine := by rw [sizeLine_eq]; rfl
theorem intOp {X : Cx} (o : BO) {i j k : Int} (e : binI o i j = some k) {t u : Tok} {Q : Value → Shared → Prop} {E : Value → Shared → Prop} {s : Shared} (h : Q (.int k s.toks) { s with toks := s.toks + 1 }) :
    wpAny (model X.prog X.w) X.A (binaryOp (bo o) (.int i t) (.int j u)) Q E s ∧ wpAny (model X.prog X.w) X.A (inplaceOp (bo o) (.int i t) (.int j u)) Q E s := by
  cases o with
  | add => cases Option.some.inj e; exact ⟨PyProof.Rows.add_int h, PyProof.Rows.iadd_int h⟩
  | sub => cases Option.some.inj e; exact ⟨PyProof.Rows.sub_int h, PyProof.Rows.isub_int h⟩
  | mul =>
    have e' : (if i.natAbs.log2 + j.natAbs.log2 < 1000000 ∨ (-18446744073709551616 < i ∧ i < 18446744073709551616) ∨ (-18446744073709551616 < j ∧ j < 18446744073709551616) then some (i * j) else none) = some k := e
    split at e'
    · rename_i hc
      cases Option.some.inj e'
      have hm : IntMulOk i j := by
        rcases hc with hc | hc
        · exact CMulW.ok (i := i) (j := j) hc
        · exact CMul.ok (show (-(2 ^ 64) < i ∧ i < 2 ^ 64) ∨ (-(2 ^ 64) < j ∧ j < 2 ^ 64) by omega)
      exact ⟨PyProof.Rows.mul_int h hm, PyProof.Rows.imul_int h hm⟩
    · cases e'
  | fdiv =>
    have e' : (if 0 < j then (if j.natAbs.log2 < 9000 then some (i / j) else none) else none) = some k := e
    split at e'
    · rename_i h1
      split at e'
      · rename_i h2
        cases Option.some.inj e'
        rw [← Int.fdiv_eq_ediv_of_nonneg i (by omega)] at h
        exact ⟨PyProof.Rows.floordiv_int (by omega) h (.inl (PyProof.noPylong_of_log2 h2)), PyProof.Rows.ifloordiv_int (by omega) h (.inl (PyProof.noPylong_of_log2 h2))⟩
      · cases e'
    · cases e'
  | mod =>
    have e' : (if 0 < j then some (i % j) else none) = some k := e
    split at e'
    · rename_i h1
      cases Option.some.inj e'
      rw [← Int.fmod_eq_emod_of_nonneg i (by omega)] at h
      exact ⟨PyProof.Rows.mod_int' (by omega) h, PyProof.Rows.imod_int (by omega) h⟩
    · cases e'
  | pow =>
    have e' : (match natOf j with
      | some m => if (i.natAbs.log2 + 1) * m < 100000 then some (i ^ m) else none
      | none => none) = some k := e
    split at e'
    · rename_i m hm
      obtain rfl := natOf_some hm
      split at e'
      · rename_i hc
        cases Option.some.inj e'
        have hb : (Builtin.Int.intBits i : Int) * (m : Int) ≤ 2 ^ 27 := by
          have h1 : Builtin.Int.intBits i ≤ i.natAbs.log2 + 1 := by
            unfold Builtin.Int.intBits
            split <;> omega
          have h2 : Builtin.Int.intBits i * m ≤ (i.natAbs.log2 + 1) * m := Nat.mul_le_mul_right _ h1
          have h3 : ((Builtin.Int.intBits i * m : Nat) : Int) ≤ 100000 := by omega
          rw [Int.natCast_mul] at h3
          exact Int.le_trans h3 (by decide)
        exact ⟨PyProof.Rows.pow_int (by omega) hb h, PyProof.Rows.ipow_int (by omega) hb h⟩
      · cases e'
    · cases e'
  | shl =>
    have e' : (match natOf j with
      | some m => if i.natAbs.log2 + m < 100000 then some (i * 2 ^ m) else none
      | none => none) = some k := e
    split at e'
    · rename_i m hm
      obtain rfl := natOf_some hm
      split at e'
      · rename_i hc
        cases Option.some.inj e'
        have hb : (Builtin.Int.intBits i : Int) + (m : Int) ≤ 2 ^ 27 := by
          have h1 : Builtin.Int.intBits i ≤ i.natAbs.log2 + 1 := by
            unfold Builtin.Int.intBits
            split <;> omega
          have h3 : ((Builtin.Int.intBits i + m : Nat) : Int) ≤ 100001 := by omega
          rw [Int.natCast_add] at h3
          exact Int.le_trans h3 (by decide)
        exact ⟨PyProof.Rows.lshift_int (by omega) hb h, PyProof.Rows.ilshift_int (by omega) hb h⟩
      · cases e'
    · cases e'
  | shr =>
    have e' : (match natOf j with
      | some m => some (i / 2 ^ m)
      | none => none) = some k := e
    split at e'
    · rename_i m hm
      obtain rfl := natOf_some hm
      cases Option.some.inj e'
      have h' : Q (.int (i.fdiv (2 ^ (m : Int).toNat)) s.toks) { s with toks := s.toks + 1 } := by
        rw [Int.fdiv_eq_ediv_of_nonneg i (two_pow_nn _)]
        exact h
      exact ⟨PyProof.Rows.rshift_int (by omega) h', PyProof.Rows.irshift_int (by omega) h'⟩
    · cases e'
  | and =>
    have e' : (match natOf i with
      | some a => match natOf j with
        | some b => some (Int.ofNat (a &&& b))
        | none => none
      | none => none) = some k := e
    split at e'
    · rename_i a ha
      obtain rfl := natOf_some ha
      split at e'
      · rename_i b hb
        obtain rfl := natOf_some hb
        cases Option.some.inj e'
        have h' : Q (.int (Builtin.bitAnd (a : Int) (b : Int)) s.toks) { s with toks := s.toks + 1 } := by
          rw [PyProof.Rows.bitAnd_pp (by omega) (by omega)]
          exact h
        exact ⟨PyProof.Rows.and_int h', PyProof.Rows.iand_int h'⟩
      · cases e'
    · cases e'
  | or =>
    have e' : (match natOf i with
      | some a => match natOf j with
        | some b => some (Int.ofNat (a ||| b))
        | none => none
      | none => none) = some k := e
    split at e'
    · rename_i a ha
      obtain rfl := natOf_some ha
      split at e'
      · rename_i b hb
        obtain rfl := natOf_some hb
        cases Option.some.inj e'
        have h' : Q (.int (Builtin.bitOr (a : Int) (b : Int)) s.toks) { s with toks := s.toks + 1 } := by
          rw [Bits.bitOr_pp (by omega) (by omega)]
          exact h
        exact ⟨PyProof.Rows.or_int h', PyProof.Rows.ior_int h'⟩
      · cases e'
    · cases e'
  | xor =>
    have e' : (match natOf i with
      | some a => match natOf j with
        | some b => some (Int.ofNat (a ^^^ b))
        | none => none
      | none => none) = some k := e
    split at e'
    · rename_i a ha
      obtain rfl := natOf_some ha
      split at e'
      · rename_i b hb
        obtain rfl := natOf_some hb
        cases Option.some.inj e'
        have h' : Q (.int (Builtin.bitXor (a : Int) (b : Int)) s.toks) { s with toks := s.toks + 1 } := by
          rw [Bits.bitXor_pp (by omega) (by omega)]
          exact h
        exact ⟨PyProof.Rows.xor_int h', PyProof.Rows.ixor_int h'⟩
      · cases e'
    · cases e'
def rV (Γ : Gm) (f : Hh → Vl → Vl → Option Vl) : R2 := fun x y H Q => ∃ L m h a b v, RepH Γ L m h H ∧ RepV Γ L m H a x ∧ RepV Γ L m H b y ∧ f h a b = some v ∧ okV Γ L m H h v Q
theorem rep_flat {xs : List Vl} {us : List V} {Γ : Gm} {L m : List Addr} {H : Hp} (r : RepL Γ L m H xs us) : ∀ k : Nat, RepL Γ L m H (List.replicate k xs).flatten (List.replicate k us).flatten
  | 0 => trivial
  | k + 1 => by
    rw [List.replicate_succ, List.replicate_succ, List.flatten_cons, List.flatten_cons]
    exact r.append (rep_flat r k)
theorem strs_app (a b : List Nat) : (⟨a.toArray⟩ : Str) ++ (⟨b.toArray⟩ : Str) = ⟨(a ++ b).toArray⟩ := by
  show (⟨a.toArray ++ b.toArray⟩ : Str) = _
  rw [List.append_toArray]
theorem RepL.nil_iff {Γ : Gm} {L m : List Addr} {H : Hp} {xs : List Vl} {us : List V} (r : RepL Γ L m H xs us) : xs = [] ↔ us = [] := by
  have := r.length
  constructor
  · intro e
    subst e
    exact List.eq_nil_of_length_eq_zero this.symm
  · intro e
    subst e
    exact List.eq_nil_of_length_eq_zero this
theorem op_binV {X : Cx} {Γ : Gm} (C : X.K = Γ.K) (o : BO) : OpR X (binaryOp (bo o)) (rV Γ (binV o)) := by
  intro pins s σ H x y v u Q I rx ry hq
  obtain ⟨L, m, h, a, b, z, rh, ra, rb, e, k⟩ := hq
  have ls := line_eq
  unfold binV at e
  split at e
  · rename_i i j
    have e1 : x = .int i := ra
    have e2 : y = .int j := rb
    subst e1 e2
    obtain ⟨t, rfl⟩ := rx
    obtain ⟨t', rfl⟩ := ry
    split at e
    · rename_i k' hk
      cases Option.some.inj e
      exact (intOp o hk ⟨.int k', H, I.tok _, ⟨_, rfl⟩, k.now rh rfl⟩).1
    · cases e
  · rename_i i j
    have e1 : x = .str ⟨i.toArray⟩ := ra
    have e2 : y = .str ⟨j.toArray⟩ := rb
    split at e
    · split at e
      · rename_i hz
        cases Option.some.inj e
        refine op_add_str pins s σ H x y v u Q I rx ry ⟨_, _, e1, e2, ?_, ?_⟩
        · show i.toArray.size + j.toArray.size ≤ sizeLine
          rw [← ls]
          simpa using hz
        · rw [strs_app]
          exact k.now rh rfl
      · cases e
    · cases e
  · rename_i i j
    obtain ⟨a1, us, e1, q1, r1⟩ := ra
    obtain ⟨a2, ws, e2, q2, r2⟩ := rb
    split at e
    · split at e
      · rename_i hz
        cases Option.some.inj e
        have l1 := r1.length
        have l2 := r2.length
        refine op_catA pins s σ H x y v u Q I rx ry ⟨a1, a2, us, ws, e1, e2, by rw [C]; exact q1, by rw [C]; exact q2, by rw [← l1, ← l2, ← ls]; exact hz, fun n => ?_, fun n n2 => ?_, fun n n2 p hp => ?_⟩
        · have := r1.nil_iff.mpr n
          subst this
          exact k.now rh ⟨a2, ws, rfl, q2, r2⟩
        · have := r2.nil_iff.mpr n2
          subst this
          rw [List.append_nil] at k
          exact k.now rh ⟨a1, us, rfl, q1, r1⟩
        · exact k.newT rh hp (r1.append r2)
      · cases e
    · cases e
  · rename_i i j
    obtain ⟨a1, us, e1, q1, r1⟩ := ra
    have e2 : y = .int j := rb
    split at e
    · split at e
      · split at e
        · split at e
          · split at e
            · cases e
            · rename_i h1 h2 h3 h4
              cases Option.some.inj e
              have l1 := r1.length
              refine op_repT pins s σ H x y v u Q I rx ry ⟨a1, j, us, e1, e2, by rw [C]; exact q1, fun n => h4 ?_, h1, h2, by rw [← l1]; exact h3, fun p hp => ?_⟩
              · rw [r1.nil_iff.mpr n]
                rfl
              · exact k.newT rh hp (rep_flat r1 _)
          · cases e
        · cases e
      · cases e
    · cases e
  · cases e
theorem op_augV {X : Cx} {Γ : Gm} (o : BO) : OpR X (inplaceOp (bo o)) (rV Γ (augV o)) := by
  intro pins s σ H x y v u Q I rx ry hq
  obtain ⟨L, m, h, a, b, z, rh, ra, rb, e, k⟩ := hq
  have ls := line_eq
  unfold augV at e
  split at e
  · rename_i i j
    have e1 : x = .int i := ra
    have e2 : y = .int j := rb
    subst e1 e2
    obtain ⟨t, rfl⟩ := rx
    obtain ⟨t', rfl⟩ := ry
    split at e
    · rename_i k' hk
      cases Option.some.inj e
      exact (intOp o hk ⟨.int k', H, I.tok _, ⟨_, rfl⟩, k.now rh rfl⟩).2
    · cases e
  · rename_i i j
    have e1 : x = .str ⟨i.toArray⟩ := ra
    have e2 : y = .str ⟨j.toArray⟩ := rb
    split at e
    · split at e
      · rename_i hz
        cases Option.some.inj e
        refine iop_add_str pins s σ H x y v u Q I rx ry ⟨_, _, e1, e2, ?_, ?_⟩
        · show i.toArray.size + j.toArray.size ≤ sizeLine
          rw [← ls]
          simpa using hz
        · rw [strs_app]
          exact k.now rh rfl
      · cases e
    · cases e
  · cases e
def okN (Γ : Gm) (L m : List Addr) (H : Hp) (h : Hh) (xs : List Vl) (Q : VK) : Prop :=
  ∀ m' H' D us, Grow m H m' H' → H D = none → D ∉ m' → D ∉ L → H' D = some (.lst us) → RepL Γ (D :: L) m' H' xs us → RepH Γ (D :: L) m' h H' → Q (.ref D) H'
theorem okN.new {Γ : Gm} {L m : List Addr} {H : Hp} {h : Hh} {xs : List Vl} {Q : VK} (k : okN Γ L m H h xs Q) (r : RepH Γ L m h H) {p : Addr} {us : List V} (hp : H p = none) (e : RepL Γ L m H xs us) : Q (.ref p) (upd H p (.lst us)) :=
  k m _ p us (Grow.fresh hp) hp (r.out hp).1 (r.out hp).2 upd_same ((e.apart hp).grow' (Grow.fresh hp)) (r.reserve hp)
def rN (Γ : Gm) (f : Hh → Vl → Vl → Option (List Vl)) : R2 := fun x y H Q => ∃ L m h a b xs, RepH Γ L m h H ∧ RepV Γ L m H a x ∧ RepV Γ L m H b y ∧ f h a b = some xs ∧ okN Γ L m H h xs Q
theorem lstOf_rep {Γ : Gm} {L m : List Addr} {H : Hp} {h : Hh} {a : Vl} {xs : List Vl} {x : V} (rh : RepH Γ L m h H) (r : RepV Γ L m H a x) (e : lstOf h a = some xs) : ∃ p us, x = .ref p ∧ H p = some (.lst us) ∧ RepL Γ L m H xs us := by
  unfold lstOf at e
  split at e
  · cases Option.some.inj e
    obtain ⟨p, us, e1, q, _, _, rr⟩ := r
    exact ⟨p, us, e1, q, rr⟩
  · rename_i n
    obtain ⟨p, e1, q⟩ := r
    split at e
    · rename_i ys hy
      cases Option.some.inj e
      obtain ⟨us, e2, rr⟩ := rh.at_ q hy
      exact ⟨p, us, e1, e2, rr⟩
    · cases e
  · cases e
theorem seqOf_rep {Γ : Gm} {L m : List Addr} {H : Hp} {h : Hh} {a : Vl} {xs : List Vl} {x : V} (rh : RepH Γ L m h H) (r : RepV Γ L m H a x) (e : seqOf h a = some xs) : ∃ p us, x = .ref p ∧ (SqL Γ.K H p us ∨ SqT Γ.K H p us) ∧ RepL Γ L m H xs us := by
  unfold seqOf at e
  split at e
  · cases Option.some.inj e
    obtain ⟨p, us, e1, q, rr⟩ := r
    exact ⟨p, us, e1, .inr q, rr⟩
  · cases Option.some.inj e
    obtain ⟨p, us, e1, q, _, _, rr⟩ := r
    exact ⟨p, us, e1, .inl (SqL.of q), rr⟩
  · cases Option.some.inj e
    obtain ⟨p, us, e1, q, rr⟩ := r
    refine ⟨p, us, e1, .inl ?_, rr⟩
    rcases q with ⟨o, q⟩ | q
    · exact .inl (.inr ⟨o, q⟩)
    · exact .inr q
  · rename_i n
    obtain ⟨p, e1, q⟩ := r
    split at e
    · rename_i ys hy
      cases Option.some.inj e
      obtain ⟨us, e2, rr⟩ := rh.at_ q hy
      exact ⟨p, us, e1, .inl (SqL.of e2), rr⟩
    · cases e
  · cases e
theorem op_catV {X : Cx} {Γ : Gm} : OpR X (binaryOp .Add) (rN Γ catV) := by
  intro pins s σ H x y v u Q I rx ry hq
  obtain ⟨L, m, h, a, b, z, rh, ra, rb, e, k⟩ := hq
  unfold catV at e
  split at e
  · rename_i xs hx
    split at e
    · rename_i ys hy
      split at e
      · rename_i hz
        cases Option.some.inj e
        obtain ⟨p, us, e1, q1, r1⟩ := lstOf_rep rh ra hx
        obtain ⟨p2, ws, e2, q2, r2⟩ := lstOf_rep rh rb hy
        have l1 := r1.length
        have l2 := r2.length
        exact op_cat pins s σ H x y v u Q I rx ry ⟨p, p2, us, ws, e1, e2, q1, q2, by rw [← l1, ← l2, ← line_eq]; exact hz, fun D hD => k.new rh hD (r1.append r2)⟩
      · cases e
    · cases e
  · cases e
theorem op_repV {X : Cx} {Γ : Gm} : OpR X (binaryOp .Mult) (rN Γ repV) := by
  intro pins s σ H x y v u Q I rx ry hq
  obtain ⟨L, m, h, a, b, z, rh, ra, rb, e, k⟩ := hq
  unfold repV at e
  split at e
  · rename_i xs hx
    split at e
    · rename_i j
      have e2 : y = .int j := rb
      split at e
      · split at e
        · split at e
          · rename_i h1 h2 h3
            cases Option.some.inj e
            obtain ⟨p, us, e1, q1, r1⟩ := lstOf_rep rh ra hx
            have l1 := r1.length
            exact op_rep pins s σ H x y v u Q I rx ry ⟨p, j, us, e1, e2, q1, by omega, by omega, by rw [← l1, ← line_eq]; exact h1, fun D hD => k.new rh hD (rep_flat r1 _)⟩
          · cases e
        · cases e
      · cases e
    · cases e
  · cases e
end Mi
set_option Elab.async false
set_option linter.all false
set_option maxRecDepth 100000
set_option maxHeartbeats 4000000
namespace Mi
open PySem L2
mutual
def toPy : Vl → PyData
  | .non => .none
  | .bl b => .bool b
  | .int i => .int i
  | .str s => .str ⟨s.toArray⟩
  | .lst xs => .list (toPyL xs)
  | .tup xs => .tuple (toPyL xs)
  | _ => .none
def toPyL : List Vl → List PyData
  | [] => []
  | x :: r => toPy x :: toPyL r
end
theorem str_beq (x y : List Nat) : ((⟨x.toArray⟩ : Str) == (⟨y.toArray⟩ : Str)) = (x == y) := by
  rw [Bool.eq_iff_iff, beq_iff_eq, beq_iff_eq]
  constructor
  · intro e
    injection e with e
    exact congrArg Array.toList e
  · intro e
    rw [e]
mutual
theorem eqV_py : ∀ (a b : Vl) (n k : Nat), pl a n = true → pl b k = true → eqV a b = PyData.eqv (toPy a) (toPy b)
  | .non, b, n, k, _, h => by cases b <;> simp_all [eqV, toPy, PyData.eqv, pl]
  | .bl _, b, n, k, _, h => by cases b <;> simp_all [eqV, toPy, PyData.eqv, pl]
  | .int _, b, n, k, _, h => by cases b <;> simp_all [eqV, toPy, PyData.eqv, pl]
  | .str s, b, n, k, _, h => by
    cases b with
    | str t =>
      show (s == t) = ((⟨s.toArray⟩ : Str) == (⟨t.toArray⟩ : Str))
      exact (str_beq s t).symm
    | _ => simp_all [eqV, toPy, PyData.eqv, pl]
  | .lst xs, b, n, k, g, h => by
    cases b with
    | lst ys =>
      cases n with
      | zero => simp [pl] at g
      | succ n =>
        cases k with
        | zero => simp [pl] at h
        | succ k =>
          show eqL xs ys = PyData.eqvAll (toPyL xs) (toPyL ys)
          exact eqL_py xs ys n k g h
    | _ => simp_all [eqV, toPy, PyData.eqv, pl]
  | .tup xs, b, n, k, g, h => by
    cases b with
    | tup ys =>
      cases n with
      | zero => simp [pl] at g
      | succ n =>
        cases k with
        | zero => simp [pl] at h
        | succ k =>
          show eqL xs ys = PyData.eqvAll (toPyL xs) (toPyL ys)
          exact eqL_py xs ys n k g h
    | _ => simp_all [eqV, toPy, PyData.eqv, pl]
  | .scr _, _, _, _, g, _ => by simp [pl] at g
  | .dct _, _, _, _, g, _ => by simp [pl] at g
  | .ins _ _, _, _, _, g, _ => by simp [pl] at g
  | .ref _, _, _, _, g, _ => by simp [pl] at g
  | .fn _, _, _, _, g, _ => by simp [pl] at g
  | .clo _, _, _, _, g, _ => by simp [pl] at g
theorem eqL_py : ∀ (xs ys : List Vl) (n k : Nat), plL xs n = true → plL ys k = true → eqL xs ys = PyData.eqvAll (toPyL xs) (toPyL ys)
  | [], [], _, _, _, _ => rfl
  | [], _ :: _, _, _, _, _ => rfl
  | _ :: _, [], _, _, _, _ => rfl
  | x :: xs, y :: ys, n, k, g, h => by
    have g' : (match pl x n with | true => plL xs n | false => false) = true := g
    have h' : (match pl y k with | true => plL ys k | false => false) = true := h
    split at g'
    · rename_i g1
      split at h'
      · rename_i h1
        have e1 := eqV_py x y n k g1 h1
        have e2 := eqL_py xs ys n k g' h'
        show (match eqV x y with | true => eqL xs ys | false => false) = (PyData.eqv (toPy x) (toPy y) && PyData.eqvAll (toPyL xs) (toPyL ys))
        rw [← e1, ← e2]
        cases eqV x y <;> rfl
      · cases h'
    · cases g'
end
mutual
theorem shape_py : ∀ (a : Vl) (n : Nat), pl a n = true → PyData.canLay0 (toPy a) = true ∧ PyData.depth (toPy a) ≤ n
  | .non, n, _ => ⟨rfl, Nat.zero_le _⟩
  | .bl _, n, _ => ⟨rfl, Nat.zero_le _⟩
  | .int _, n, _ => ⟨rfl, Nat.zero_le _⟩
  | .str s, n, h => by
    refine ⟨?_, Nat.zero_le _⟩
    have h' : s.all (· < 0x110000) = true := h
    show PyData.strOk ⟨s.toArray⟩ = true
    unfold PyData.strOk
    simpa using h'
  | .lst xs, n, h => by
    cases n with
    | zero => simp [pl] at h
    | succ n =>
      obtain ⟨h1, h2⟩ := shapeL_py xs n h
      exact ⟨h1, Nat.succ_le_succ h2⟩
  | .tup xs, n, h => by
    cases n with
    | zero => simp [pl] at h
    | succ n =>
      obtain ⟨h1, h2⟩ := shapeL_py xs n h
      exact ⟨h1, Nat.succ_le_succ h2⟩
  | .scr _, _, g => by simp [pl] at g
  | .dct _, _, g => by simp [pl] at g
  | .ins _ _, _, g => by simp [pl] at g
  | .ref _, _, g => by simp [pl] at g
  | .fn _, _, g => by simp [pl] at g
  | .clo _, _, g => by simp [pl] at g
theorem shapeL_py : ∀ (xs : List Vl) (n : Nat), plL xs n = true → PyData.canLayAll0 (toPyL xs) = true ∧ PyData.depthAll (toPyL xs) ≤ n
  | [], _, _ => ⟨rfl, Nat.zero_le _⟩
  | x :: xs, n, g => by
    have g' : (match pl x n with | true => plL xs n | false => false) = true := g
    split at g'
    · rename_i g1
      obtain ⟨a1, a2⟩ := shape_py x n g1
      obtain ⟨b1, b2⟩ := shapeL_py xs n g'
      refine ⟨?_, ?_⟩
      · show (PyData.canLay0 (toPy x) && PyData.canLayAll0 (toPyL xs)) = true
        rw [a1, b1] <;> rfl
      · show max (PyData.depth (toPy x)) (PyData.depthAll (toPyL xs)) ≤ n
        omega
    · cases g'
end
section
variable {Γ : Gm} {L m : List Addr} {H : Hp}
mutual
theorem dp_py : ∀ {a : Vl} {n : Nat} {v : V}, pl a n = true → RepV Γ L m H a v → Dp Γ.K H v (toPy a)
  | .non, _, _, _, r => by cases (show _ = _ from r); exact .non
  | .bl _, _, _, _, r => by cases (show _ = _ from r); exact .bl _
  | .int _, _, _, _, r => by cases (show _ = _ from r); exact .int _
  | .str _, _, _, _, r => by cases (show _ = _ from r); exact .str _
  | .lst xs, n, v, h, r => by
    cases n with
    | zero => simp [pl] at h
    | succ n =>
      obtain ⟨a, us, e, q, _, _, rr⟩ := r
      subst e
      exact .lst (SqL.of q) (dpL_py h rr)
  | .tup xs, n, v, h, r => by
    cases n with
    | zero => simp [pl] at h
    | succ n =>
      obtain ⟨a, us, e, q, rr⟩ := r
      subst e
      exact .tup q (dpL_py h rr)
  | .scr _, _, _, g, _ => by simp [pl] at g
  | .dct _, _, _, g, _ => by simp [pl] at g
  | .ins _ _, _, _, g, _ => by simp [pl] at g
  | .ref _, _, _, g, _ => by simp [pl] at g
  | .fn _, _, _, g, _ => by simp [pl] at g
  | .clo _, _, _, g, _ => by simp [pl] at g
theorem dpL_py : ∀ {xs : List Vl} {n : Nat} {vs : List V}, plL xs n = true → RepL Γ L m H xs vs → DpAll Γ.K H vs (toPyL xs)
  | [], _, [], _, _ => .nil
  | [], _, _ :: _, _, r => r.elim
  | _ :: _, _, [], _, r => r.elim
  | x :: xs, n, v :: vs, g, r => by
    have g' : (match pl x n with | true => plL xs n | false => false) = true := g
    split at g'
    · rename_i g1
      exact .cons (dp_py g1 r.1) (dpL_py g' r.2)
    · cases g'
end
theorem dp_deref {h : Hh} {a : Vl} {v : V} {n : Nat} (rh : RepH Γ L m h H) (g : pl (deref h a) n = true) (r : RepV Γ L m H a v) : Dp Γ.K H v (toPy (deref h a)) := by
  unfold deref at g ⊢
  split at g
  · rename_i k
    obtain ⟨p, e, q⟩ := r
    subst e
    split at g
    · rename_i xs hx
      obtain ⟨us, e2, rr⟩ := rh.at_ q hx
      cases n with
      | zero => simp [pl] at g
      | succ n => exact .lst (SqL.of e2) (dpL_py g rr)
    · simp [pl] at g
  · exact dp_py g r
end
def rC (Γ : Gm) (f : Hh → Vl → Vl → Option Bool) : R2 := fun x y H Q => ∃ L m h a b c, RepH Γ L m h H ∧ RepV Γ L m H a x ∧ RepV Γ L m H b y ∧ f h a b = some c ∧ Q (.bl c) H
theorem pyEq_some {h : Hh} {x y : Vl} {c : Bool} (e : pyEq h x y = some c) : pl (deref h x) 20 = true ∧ pl (deref h y) 20 = true ∧ c = PyData.eqv (toPy (deref h x)) (toPy (deref h y)) := by
  unfold pyEq at e
  simp only at e
  split at e
  · rename_i h1
    split at e
    · rename_i h2
      exact ⟨h1, h2, by rw [← eqV_py _ _ _ _ h1 h2]; exact (Option.some.inj e).symm⟩
    · cases e
  · cases e
theorem shaped_pl {a : Vl} (h : pl a 20 = true) : SeqAt.shaped (toPy a) = true := by
  obtain ⟨h1, h2⟩ := shape_py a 20 h
  unfold SeqAt.shaped
  rw [h1, decide_eq_true (Nat.le_trans h2 (by decide))] <;> rfl
def co : CO → CmpOp
  | .eq => .Eq | .ne => .NotEq | .lt => .Lt | .le => .LtE | .gt => .Gt | .ge => .GtE | .is => .Is | .isnot => .IsNot | .isin => .In | .notin => .NotIn
theorem op_pyEq {X : Cx} {Γ : Gm} (C : X.K = Γ.K) (hu : X.A.units + 64 < cLine) : OpR X (compareOp .Eq) (rC Γ pyEq) := by
  intro pins s σ H x y v u Q I rx ry hq
  obtain ⟨L, m, h, a, b, c, rh, ra, rb, e, k⟩ := hq
  obtain ⟨p1, p2, rfl⟩ := pyEq_some e
  exact op_eqD hu pins s σ H x y v u Q I rx ry ⟨_, _, by rw [C]; exact dp_deref rh p1 ra, by rw [C]; exact dp_deref rh p2 rb, shaped_pl p1, shaped_pl p2, k⟩
theorem op_pyNe {X : Cx} {Γ : Gm} (C : X.K = Γ.K) (hu : X.A.units + 64 < cLine) : OpR X (compareOp .NotEq) (rC Γ (cmpV .ne)) := by
  intro pins s σ H x y v u Q I rx ry hq
  obtain ⟨L, m, h, a, b, c, rh, ra, rb, e, k⟩ := hq
  have e' : (match pyEq h a b with | some b => some (!b) | none => none) = some c := e
  split at e'
  · rename_i c' hc
    cases Option.some.inj e'
    obtain ⟨p1, p2, rfl⟩ := pyEq_some hc
    exact op_neD hu pins s σ H x y v u Q I rx ry ⟨_, _, by rw [C]; exact dp_deref rh p1 ra, by rw [C]; exact dp_deref rh p2 rb, shaped_pl p1, shaped_pl p2, k⟩
  · cases e'
section
variable {Γ : Gm} {L m : List Addr} {H : Hp}
theorem flat_rep {a : Vl} {v : V} (f : flat a = true) (r : RepV Γ L m H a v) : flatV v = true := by
  cases a with
  | non => cases (show _ = _ from r); rfl
  | bl _ => cases (show _ = _ from r); rfl
  | int _ => cases (show _ = _ from r); rfl
  | str _ => cases (show _ = _ from r); rfl
  | _ => simp [flat] at f
theorem flat_eq {a b : Vl} {v w : V} (f : flat a = true) (g : flat b = true) (r : RepV Γ L m H a v) (q : RepV Γ L m H b w) : Mi.eqV a b = L2.eqV v w := by
  cases a with
  | non => cases (show _ = _ from r); cases b <;> first | (cases (show _ = _ from q); rfl) | simp [flat] at g
  | bl _ => cases (show _ = _ from r); cases b <;> first | (cases (show _ = _ from q); rfl) | simp [flat] at g
  | int _ => cases (show _ = _ from r); cases b <;> first | (cases (show _ = _ from q); rfl) | simp [flat] at g
  | str s =>
    cases (show _ = _ from r)
    cases b with
    | str t =>
      cases (show _ = _ from q)
      exact (str_beq s t).symm
    | non => cases (show _ = _ from q); rfl
    | bl _ => cases (show _ = _ from q); rfl
    | int _ => cases (show _ = _ from q); rfl
    | _ => simp [flat] at g
  | _ => simp [flat] at f
theorem flat_all : ∀ {xs : List Vl} {us : List V}, xs.all flat = true → RepL Γ L m H xs us → us.all flatV = true
  | [], [], _, _ => rfl
  | [], _ :: _, _, r => r.elim
  | _ :: _, [], _, r => r.elim
  | x :: xs, u :: us, f, r => by
    rw [List.all_cons, Bool.and_eq_true] at f ⊢
    exact ⟨flat_rep f.1 r.1, flat_all f.2 r.2⟩
theorem inB_rep {x : Vl} {v : V} (fx : flat x = true) (rx : RepV Γ L m H x v) : ∀ {xs : List Vl} {us : List V}, xs.all flat = true → RepL Γ L m H xs us → inB x xs = inV v us
  | [], [], _, _ => rfl
  | [], _ :: _, _, r => r.elim
  | _ :: _, [], _, r => r.elim
  | y :: xs, u :: us, f, r => by
    rw [List.all_cons, Bool.and_eq_true] at f
    have ih := inB_rep fx rx f.2 r.2
    have e := flat_eq f.1 fx r.1 rx
    show (match Mi.eqV y x with | true => true | false => inB x xs) = ((u :: us).any fun y => L2.eqV y v)
    rw [List.any_cons, ← e]
    cases Mi.eqV y x with
    | true => rfl
    | false => exact ih
theorem key_rep {a : Vl} {v : V} (f : keyOk a = true) (r : RepV Γ L m H a v) : ∃ k, RepKey a k ∧ v = kV k := by
  cases a with
  | int i => exact ⟨.inl i, rfl, r⟩
  | str s => exact ⟨.inr _, rfl, r⟩
  | _ => simp [keyOk] at f
theorem key_eq {a b : Vl} {k j : Key} (ra : RepKey a k) (rb : RepKey b j) : keyEq a b = decide (k = j) := by
  cases a with
  | int i =>
    cases (show _ = _ from ra)
    cases b with
    | int i' =>
      cases (show _ = _ from rb)
      rw [key_ll] <;> rfl
    | str s =>
      cases (show _ = _ from rb)
      rw [key_lr] <;> rfl
    | _ => exact rb.elim
  | str s =>
    cases (show _ = _ from ra)
    cases b with
    | int i' =>
      cases (show _ = _ from rb)
      rw [key_rl] <;> rfl
    | str t =>
      cases (show _ = _ from rb)
      rw [key_rr]
      show (s == t) = _
      rw [← str_beq s t, Bool.eq_iff_iff, beq_iff_eq, decide_eq_true_iff]
    | _ => exact rb.elim
  | _ => exact ra.elim
theorem dget_rep {k : Vl} {j : Key} (rk : RepKey k j) : ∀ {kvs : List (Vl × Vl)} {us : List (Key × V)}, RepKs Γ L m H kvs us →
    match dget k kvs with
    | some x => ∃ u, valV us j = some u ∧ RepV Γ L m H x u
    | none => valV us j = none
  | [], [], _ => rfl
  | [], _ :: _, r => r.elim
  | _ :: _, [], r => r.elim
  | (a, x) :: r, (b, u) :: s, h => by
    obtain ⟨h1, h2, h3⟩ := h
    have e := key_eq h1 rk
    have ih := dget_rep rk h3
    unfold dget
    cases hb : keyEq a k with
    | true =>
      rw [hb] at e
      have e' : b = j := of_decide_eq_true e.symm
      exact ⟨u, valV_pos e', h2⟩
    | false =>
      rw [hb] at e
      have e' : ¬ b = j := of_decide_eq_false e.symm
      dsimp only
      rw [valV_neg (p := (b, u)) e']
      exact ih
theorem dget_some {k x : Vl} {j : Key} {kvs : List (Vl × Vl)} {us : List (Key × V)} (rk : RepKey k j) (r : RepKs Γ L m H kvs us) (e : dget k kvs = some x) : ∃ u, valV us j = some u ∧ RepV Γ L m H x u := by
  have := dget_rep rk r
  rw [e] at this
  exact this
theorem dget_isSome {k : Vl} {j : Key} {kvs : List (Vl × Vl)} {us : List (Key × V)} (rk : RepKey k j) (r : RepKs Γ L m H kvs us) : (dget k kvs).isSome = (valV us j).isSome := by
  have := dget_rep rk r
  cases e : dget k kvs with
  | none =>
    rw [e] at this
    rw [show valV us j = none from this]
    rfl
  | some x =>
    rw [e] at this
    obtain ⟨u, h, _⟩ := this
    rw [h] <;> rfl
theorem RepKs.append {kvs ks : List (Vl × Vl)} {us ws : List (Key × V)} (a : RepKs Γ L m H kvs us) (b : RepKs Γ L m H ks ws) : RepKs Γ L m H (kvs ++ ks) (us ++ ws) := by
  induction kvs generalizing us with
  | nil => cases us with
    | nil => exact b
    | cons _ _ => exact a.elim
  | cons x xs ih => cases us with
    | nil => exact a.elim
    | cons v vs => exact ⟨a.1, a.2.1, ih a.2.2⟩
theorem drep_rep {k v : Vl} {j : Key} {w : V} (rk : RepKey k j) (rv : RepV Γ L m H v w) : ∀ {kvs : List (Vl × Vl)} {us : List (Key × V)}, RepKs Γ L m H kvs us → RepKs Γ L m H (drep k v kvs) (us.map fun kv => if kv.1 = j then (kv.1, w) else kv)
  | [], [], _ => trivial
  | [], _ :: _, r => r.elim
  | _ :: _, [], r => r.elim
  | (a, x) :: r, (b, u) :: s, h => by
    obtain ⟨h1, h2, h3⟩ := h
    have e := key_eq h1 rk
    have ih := drep_rep rk rv h3
    unfold drep
    rw [List.map_cons]
    cases hb : keyEq a k with
    | true =>
      rw [hb] at e
      have e' : b = j := of_decide_eq_true e.symm
      rw [if_pos e']
      exact ⟨h1, rv, ih⟩
    | false =>
      rw [hb] at e
      have e' : ¬ b = j := of_decide_eq_false e.symm
      rw [if_neg e']
      exact ⟨h1, h2, ih⟩
theorem dput_rep {k v : Vl} {j : Key} {w : V} (rk : RepKey k j) (rv : RepV Γ L m H v w) {kvs : List (Vl × Vl)} {us : List (Key × V)} (r : RepKs Γ L m H kvs us) : RepKs Γ L m H (dput k v kvs) (putK us j w) := by
  have hs := dget_isSome rk r
  unfold dput putK
  rw [valV_any, ← hs]
  split
  · rename_i e
    rw [e, if_pos (show (some _ : Option Vl).isSome = true from rfl)]
    exact drep_rep rk rv r
  · rename_i e
    rw [e, if_neg (show ¬ (none : Option Vl).isSome = true from Bool.false_ne_true)]
    exact r.append ⟨rk, rv, trivial⟩
theorem RepKs.length : ∀ {kvs : List (Vl × Vl)} {us : List (Key × V)}, RepKs Γ L m H kvs us → kvs.length = us.length
  | [], [], _ => rfl
  | [], _ :: _, r => r.elim
  | _ :: _, [], r => r.elim
  | _ :: _, _ :: _, h => congrArg (· + 1) (RepKs.length h.2.2)
end
end Mi
set_option Elab.async false
set_option linter.all false
set_option maxRecDepth 100000
set_option maxHeartbeats 4000000
namespace Mi
open PySem PySem.Spec PyProof.Rows L2
section
variable {Γ : Gm} {L m : List Addr} {H : Hp}
theorem isIn_run {X : Cx} (C : X.K = Γ.K) (hu : X.A.units + 1 < cLine) {neg : Bool} {pins : List (Addr × Obj)} {s : Shared} {σ : L2.St} {x y : V} {v u : Value} {Q : VK} {h : Hh} {a b : Vl} {c : Bool} (I : Inv X pins σ H s) (rx : RelV x v) (ry : RelV y u)
    (rh : RepH Γ L m h H) (ra : RepV Γ L m H a x) (rb : RepV Γ L m H b y) (e : isIn h a b = some c) (k : Q (.bl (if neg then !c else c)) H) : wpAny (model X.prog X.w) X.A (compareOp (if neg then .NotIn else .In) v u) (EP X pins σ Q) X.xe s := by
  have sq : ∀ (p : Addr) (us : List V) (xs : List Vl), y = .ref p → (SqL X.K H p us ∨ SqT X.K H p us) → RepL Γ L m H xs us → (flat a && xs.all flat) = true → c = inB a xs →
      wpAny (model X.prog X.w) X.A (compareOp (if neg then .NotIn else .In) v u) (EP X pins σ Q) X.xe s := fun p us xs e1 e2 rr f ec => by
    rw [Bool.and_eq_true] at f
    have ei := inB_rep f.1 ra f.2 rr
    subst ec
    rw [ei] at k
    cases neg with
    | false => exact op_in_seq pins s σ H x y v u Q I rx ry ⟨p, us, e1, e2, flat_rep f.1 ra, flat_all f.2 rr, k⟩
    | true => exact op_notIn_seq pins s σ H x y v u Q I rx ry ⟨p, us, e1, e2, flat_rep f.1 ra, flat_all f.2 rr, k⟩
  unfold isIn at e
  split at e
  · rename_i n
    obtain ⟨p, e1, q⟩ := rb
    split at e
    · rename_i kvs hk
      split at e
      · rename_i hko
        cases Option.some.inj e
        obtain ⟨us, e2, rr⟩ := rh.at_ q hk
        obtain ⟨j, rk, ex⟩ := key_rep hko ra
        have es := dget_isSome rk rr
        rw [es] at k
        subst e1
        cases ry
        cases neg with
        | false => exact d_in hu I (by rw [ex]; exact DGet.k e2) rx fun s' I' => ⟨.bl _, H, I', rfl, k⟩
        | true => exact d_notIn hu I (by rw [ex]; exact DGet.k e2) rx fun s' I' => ⟨.bl _, H, I', rfl, k⟩
      · cases e
    · rename_i xs hx
      split at e
      · rename_i f
        obtain ⟨us, e2, rr⟩ := rh.at_ q hx
        exact sq p us xs e1 (.inl (SqL.of e2)) rr f (Option.some.inj e).symm
      · cases e
    · cases e
  · rename_i xs
    obtain ⟨p, us, e1, e2, rr⟩ := rb
    split at e
    · rename_i f
      exact sq p us xs e1 (.inr (by rw [C]; exact e2)) rr f (Option.some.inj e).symm
    · cases e
  · rename_i xs
    obtain ⟨p, us, e1, e2, _, _, rr⟩ := rb
    split at e
    · rename_i f
      exact sq p us xs e1 (.inl (SqL.of e2)) rr f (Option.some.inj e).symm
    · cases e
  · cases e
theorem isNon_rep {a : Vl} {x : V} (r : RepV Γ L m H a x) : isNon a = decide (x = .non) := by
  cases a with
  | non => cases (show _ = _ from r); rfl
  | bl _ => cases (show _ = _ from r); rfl
  | int _ => cases (show _ = _ from r); rfl
  | str _ => cases (show _ = _ from r); rfl
  | tup _ => obtain ⟨_, _, rfl, _⟩ := r; rfl
  | lst _ => obtain ⟨_, _, rfl, _⟩ := r; rfl
  | scr _ => obtain ⟨_, _, rfl, _⟩ := r; rfl
  | dct _ => exact r.elim
  | ins _ _ => obtain ⟨_, _, _, _, rfl, _⟩ := r; rfl
  | ref _ => obtain ⟨_, rfl, _⟩ := r; rfl
  | fn _ => cases (show _ = _ from r); rfl
  | clo _ => exact r.elim
end
theorem op_cmpV {X : Cx} {Γ : Gm} (C : X.K = Γ.K) (hu : X.A.units + 64 < cLine) (o : CO) : OpR X (compareOp (co o)) (rC Γ (cmpV o)) := by
  cases o with
  | eq => exact op_pyEq C hu
  | ne => exact op_pyNe C hu
  | lt =>
    intro pins s σ H x y v u Q I rx ry hq
    obtain ⟨L, m, h, a, b, c, rh, ra, rb, e, k⟩ := hq
    unfold cmpV at e
    simp only at e
    split at e
    · cases Option.some.inj e
      exact op_lt pins s σ H x y v u Q I rx ry ⟨_, _, ra, rb, k⟩
    · cases e
  | le =>
    intro pins s σ H x y v u Q I rx ry hq
    obtain ⟨L, m, h, a, b, c, rh, ra, rb, e, k⟩ := hq
    unfold cmpV at e
    simp only at e
    split at e
    · cases Option.some.inj e
      exact op_le pins s σ H x y v u Q I rx ry ⟨_, _, ra, rb, k⟩
    · cases e
  | gt =>
    intro pins s σ H x y v u Q I rx ry hq
    obtain ⟨L, m, h, a, b, c, rh, ra, rb, e, k⟩ := hq
    unfold cmpV at e
    simp only at e
    split at e
    · cases Option.some.inj e
      exact op_gt pins s σ H x y v u Q I rx ry ⟨_, _, ra, rb, k⟩
    · cases e
  | ge =>
    intro pins s σ H x y v u Q I rx ry hq
    obtain ⟨L, m, h, a, b, c, rh, ra, rb, e, k⟩ := hq
    unfold cmpV at e
    simp only at e
    split at e
    · cases Option.some.inj e
      exact op_ge pins s σ H x y v u Q I rx ry ⟨_, _, ra, rb, k⟩
    · cases e
  | is =>
    intro pins s σ H x y v u Q I rx ry hq
    obtain ⟨L, m, h, a, b, c, rh, ra, rb, e, k⟩ := hq
    unfold cmpV at e
    simp only at e
    split at e
    · cases Option.some.inj e
      rw [isNon_rep ra] at k
      exact op_isN pins s σ H x y v u Q I rx ry ⟨rb, k⟩
    · cases e
  | isnot =>
    intro pins s σ H x y v u Q I rx ry hq
    obtain ⟨L, m, h, a, b, c, rh, ra, rb, e, k⟩ := hq
    unfold cmpV at e
    simp only at e
    split at e
    · cases Option.some.inj e
      rw [isNon_rep ra] at k
      exact op_notN pins s σ H x y v u Q I rx ry ⟨rb, k⟩
    · cases e
  | isin =>
    intro pins s σ H x y v u Q I rx ry hq
    obtain ⟨L, m, h, a, b, c, rh, ra, rb, e, k⟩ := hq
    exact isIn_run (neg := false) C (by omega) I rx ry rh ra rb e k
  | notin =>
    intro pins s σ H x y v u Q I rx ry hq
    obtain ⟨L, m, h, a, b, c, rh, ra, rb, e, k⟩ := hq
    have e' : (match isIn h a b with | some b => some (!b) | none => none) = some c := e
    split at e'
    · rename_i d hd
      cases Option.some.inj e'
      exact isIn_run (neg := true) C (by omega) I rx ry rh ra rb hd k
    · cases e'
theorem ixN_eq {n : Nat} {i : Int} {j : Nat} (e : Mi.ixN n i = some j) : L2.ixN n i = some j := by
  unfold Mi.ixN at e
  unfold L2.ixN
  cases i with
  | ofNat k =>
    dsimp only at e
    split at e
    · rename_i hk
      rw [if_pos (show (0 : Int) ≤ Int.ofNat k from Int.natCast_nonneg _), if_pos (show (Int.ofNat k : Int) < n from Int.ofNat_lt.mpr hk)]
      exact e
    · cases e
  | negSucc k =>
    dsimp only at e
    split at e
    · rename_i hk
      cases Option.some.inj e
      have h1 : ¬ (0 : Int) ≤ Int.negSucc k := by omega
      have h2 : -(n : Int) ≤ Int.negSucc k := by omega
      rw [if_neg h1, if_pos h2]
      congr 1
      omega
    · cases e
theorem atI_of {n : Nat} {i : Int} {j : Nat} {us : List V} {u : V} (hl : us.length = n) (e : Mi.ixN n i = some j) (h : us[j]? = some u) : atI us i = some u := by
  unfold atI
  rw [hl, ixN_eq e]
  exact h
theorem ix_sub {X : Cx} {Γ : Gm} (C : X.K = Γ.K) (hu : X.A.units + 1 < cLine) : IxR X (rV Γ subV) := by
  intro value slice pins s σ H x y v u Q I rx ry hq hs
  obtain ⟨L, m, h, a, b, z, rh, ra, rb, e, k⟩ := hq
  have sq : ∀ (p : Addr) (us : List V) (xs : List Vl) (i : Int) (j : Nat), x = .ref p → y = .int i → (SqL X.K H p us ∨ SqT X.K H p us) → RepL Γ L m H xs us → Mi.ixN xs.length i = some j → xs[j]? = some z →
      wpAny (model X.prog X.w) X.A (subscriptTail value slice v u) (EP X pins σ Q) X.xe s := fun p us xs i j e1 e2 q rr ej ex => by
    obtain ⟨w, hw, rw'⟩ := rr.get ex
    have ha := atI_of (us := us) rr.length.symm ej hw
    rcases q with q | q
    · exact ix_list value slice pins s σ H x y v u Q I rx ry ⟨p, us, i, w, e1, e2, q, ha, k.now rh rw'⟩ hs
    · exact ix_tup value slice pins s σ H x y v u Q I rx ry ⟨p, us, i, w, e1, e2, q, ha, k.now rh rw'⟩ hs
  have dk : ∀ (p : Addr) (us : List (Key × V)) (kvs : List (Vl × Vl)), x = .ref p → H p = some (.dK us) → RepKs Γ L m H kvs us → keyOk b = true → dget b kvs = some z →
      wpAny (model X.prog X.w) X.A (subscriptTail value slice v u) (EP X pins σ Q) X.xe s := fun p us kvs e1 q rr hko hg => by
    obtain ⟨j, rk, ey⟩ := key_rep hko rb
    obtain ⟨w, hw, rw'⟩ := dget_some rk rr hg
    subst e1
    cases rx
    have g : DGet H p y (some w) := by
      rw [ey, ← hw]
      exact DGet.k q
    exact tail_any (dict_typeIs I g) PySem.F.slot_dict_getitem.lookup (d_getItem hu I g ry fun w' s3 I3 r3 => ⟨w, H, I3, r3, k.now rh rw'⟩) hs
  unfold subV at e
  split at e
  · rename_i i
    split at e
    · rename_i n
      obtain ⟨p, e1, q⟩ := ra
      split at e
      · rename_i xs hx
        split at e
        · rename_i j hj
          obtain ⟨us, e2, rr⟩ := rh.at_ q hx
          exact sq p us xs i j e1 rb (.inl (SqL.of e2)) rr hj e
        · cases e
      · rename_i kvs hk
        obtain ⟨us, e2, rr⟩ := rh.at_ q hk
        exact dk p us kvs e1 e2 rr rfl e
      · cases e
    · rename_i xs
      obtain ⟨p, us, e1, q, rr⟩ := ra
      split at e
      · rename_i j hj
        exact sq p us xs i j e1 rb (.inr (by rw [C]; exact q)) rr hj e
      · cases e
    · rename_i xs
      obtain ⟨p, us, e1, q, _, _, rr⟩ := ra
      split at e
      · rename_i j hj
        exact sq p us xs i j e1 rb (.inl (SqL.of q)) rr hj e
      · cases e
    · rename_i xs
      obtain ⟨p, us, e1, q, rr⟩ := ra
      split at e
      · rename_i j hj
        refine sq p us xs i j e1 rb (.inl ?_) rr hj e
        rcases q with ⟨o, q⟩ | q
        · exact .inl (.inr ⟨o, q⟩)
        · rw [C]
          exact .inr q
      · cases e
    · cases e
  · split at e
    · rename_i n
      obtain ⟨p, e1, q⟩ := ra
      split at e
      · rename_i kvs hk
        obtain ⟨us, e2, rr⟩ := rh.at_ q hk
        exact dk p us kvs e1 e2 rr rfl e
      · cases e
    · cases e
  · cases e
theorem sIx_eq (n d : Nat) (o : Option Int) : Mi.sIx n d o = HT.sIx n d o := by
  cases o with
  | none => rfl
  | some i => cases i with
    | ofNat k =>
      show min k n = HT.sIx n d (some (k : Int))
      rw [HT.sIx_nat]
    | negSucc k =>
      show n - (k + 1) = (if Int.negSucc k < 0 then (Int.negSucc k + (n : Int)).toNat else min (Int.negSucc k).toNat n)
      rw [if_pos (show Int.negSucc k < 0 by omega)]
      omega
section
variable {Γ : Gm} {L m : List Addr} {H : Hp}
theorem RepL.drop {xs : List Vl} {us : List V} (r : RepL Γ L m H xs us) : ∀ k : Nat, RepL Γ L m H (xs.drop k) (us.drop k) := fun k => by
  induction k generalizing xs us with
  | zero => exact r
  | succ k ih => cases xs with
    | nil => cases us with
      | nil => exact trivial
      | cons _ _ => exact r.elim
    | cons x xs => cases us with
      | nil => exact r.elim
      | cons u us => exact ih r.2
theorem RepL.take {xs : List Vl} {us : List V} (r : RepL Γ L m H xs us) : ∀ k : Nat, RepL Γ L m H (xs.take k) (us.take k) := fun k => by
  induction k generalizing xs us with
  | zero => exact trivial
  | succ k ih => cases xs with
    | nil => cases us with
      | nil => exact trivial
      | cons _ _ => exact r.elim
    | cons x xs => cases us with
      | nil => exact r.elim
      | cons u us => exact ⟨r.1, ih r.2⟩
theorem RepL.cut {xs : List Vl} {us : List V} (r : RepL Γ L m H xs us) (lo hi : Option Int) : RepL Γ L m H (cut xs lo hi) (cutV us lo hi) := by
  unfold Mi.cut cutV
  rw [sIx_eq, sIx_eq, r.length]
  exact (r.drop _).take _
end
theorem sl_cut {X : Cx} {Γ : Gm} (C : X.K = Γ.K) : SlR X (fun x lo hi H Q => ∃ L m h a z, RepH Γ L m h H ∧ RepV Γ L m H a x ∧ cutW h a lo hi = some z ∧ okV Γ L m H h z Q) := by
  intro pins s σ H x v vl vu lo hi sl Q I rx hs pl pu hq
  obtain ⟨L, m, h, a, z, rh, ra, e, k⟩ := hq
  have sq : ∀ (p : Addr) (us : List V) (xs : List Vl), x = .ref p → SqL X.K H p us → RepL Γ L m H xs us → z = .lst (cut xs lo hi) → ∃ T id, typeLookup (.type T) "__getitem__" = pure (some (.builtin id)) ∧ s.TypeIs v T ∧ wpAny (model X.prog X.w) X.A (getItem v (.ref sl)) (EP X pins σ Q) X.xe s := fun p us xs e1 q rr ez => by
    subst ez
    exact sl_list pins s σ H x v vl vu lo hi sl Q I rx hs pl pu ⟨p, us, e1, q, fun D hD => k.newL rh hD (rr.cut lo hi)⟩
  unfold cutW at e
  split at e
  · rename_i xs
    obtain ⟨p, us, e1, q, rr⟩ := ra
    cases Option.some.inj e
    refine sl_tupA pins s σ H x v vl vu lo hi sl Q I rx hs pl pu ⟨p, us, e1, by rw [C]; exact q, fun w => ?_, fun w D hD => ?_⟩
    · have ec : cut xs lo hi = xs := by
        unfold Mi.cut
        rw [sIx_eq, sIx_eq, rr.length, w.1, w.2, Nat.sub_zero, List.drop_zero, ← rr.length, List.take_length]
      rw [ec] at k
      exact k.now rh ⟨p, us, rfl, q, rr⟩
    · exact k.newT rh hD (rr.cut lo hi)
  · rename_i xs
    obtain ⟨p, us, e1, q, _, _, rr⟩ := ra
    exact sq p us xs e1 (SqL.of q) rr (Option.some.inj e).symm
  · rename_i xs
    obtain ⟨p, us, e1, q, rr⟩ := ra
    refine sq p us xs e1 ?_ rr (Option.some.inj e).symm
    rcases q with ⟨o, q⟩ | q
    · exact .inl (.inr ⟨o, q⟩)
    · rw [C]
      exact .inr q
  · obtain ⟨p, e1, q⟩ := ra
    split at e
    · rename_i xs hx
      obtain ⟨us, e2, rr⟩ := rh.at_ q hx
      exact sq p us xs e1 (SqL.of e2) rr (Option.some.inj e).symm
    · cases e
  · cases e
theorem sl_cutN {X : Cx} {Γ : Gm} : SlR X (fun x lo hi H Q => ∃ L m h a xs, RepH Γ L m h H ∧ RepV Γ L m H a x ∧ lstOf h a = some xs ∧ okN Γ L m H h (cut xs lo hi) Q) := by
  intro pins s σ H x v vl vu lo hi sl Q I rx hs pl pu hq
  obtain ⟨L, m, h, a, xs, rh, ra, e, k⟩ := hq
  obtain ⟨p, us, e1, q, rr⟩ := lstOf_rep rh ra e
  exact sl_list pins s σ H x v vl vu lo hi sl Q I rx hs pl pu ⟨p, us, e1, SqL.of q, fun D hD => k.new rh hD (rr.cut lo hi)⟩
def okH (Γ : Gm) (L m : List Addr) (H : Hp) (h1 : Hh) (Q : Hp → Prop) : Prop := ∀ H', Grow m H m H' → RepH Γ L m h1 H' → Q H'
theorem RepL.set {Γ : Gm} {L m : List Addr} {H : Hp} {x : Vl} {u : V} (r : RepV Γ L m H x u) {xs : List Vl} {us : List V} (rr : RepL Γ L m H xs us) (j : Nat) : RepL Γ L m H (xs.set j x) (us.set j u) := by
  induction j generalizing xs us with
  | zero => cases xs with
    | nil => cases us with
      | nil => exact trivial
      | cons _ _ => exact rr.elim
    | cons y xs => cases us with
      | nil => exact rr.elim
      | cons w us => exact ⟨r, rr.2⟩
  | succ j ih => cases xs with
    | nil => cases us with
      | nil => exact trivial
      | cons _ _ => exact rr.elim
    | cons y xs => cases us with
      | nil => exact rr.elim
      | cons w us => exact ⟨rr.1, ih rr.2⟩
theorem set_setV {X : Cx} {Γ : Gm} (hu : X.A.units + 1 < cLine) : PSet X (fun o i v H Q => ∃ L m h a b c h1, RepH Γ L m h H ∧ RepV Γ L m H a o ∧ RepV Γ L m H b i ∧ RepV Γ L m H c v ∧ setV h a b c = some h1 ∧ okH Γ L m H h1 Q) := by
  intro pins s σ H o i v ov iv u Q I ro ri rv hq
  obtain ⟨L, m, h, a, b, c, h1, rh, ra, rb, rc, e, k⟩ := hq
  unfold setV at e
  split at e
  · rename_i n
    obtain ⟨p, e1, q⟩ := ra
    split at e
    · rename_i xs hx
      split at e
      · rename_i j
        split at e
        · rename_i i' hi
          cases Option.some.inj e
          obtain ⟨us, e2, rr⟩ := rh.at_ q hx
          refine set_list pins s σ H o i v ov iv u Q I ro ri rv ⟨p, us, j, i', e1, rb, e2, by rw [← rr.length]; exact ixN_eq hi, ?_⟩
          refine k _ (Grow.write rh q) (rh.write q (List.getElem?_eq_some_iff.mp hx).1 ?_)
          exact ⟨_, upd_same, (rr.set rc i').grow' (Grow.write rh q)⟩
        · cases e
      · cases e
    · rename_i kvs hk
      split at e
      · rename_i hko
        split at e
        · rename_i hz
          cases Option.some.inj e
          obtain ⟨us, e2, rr⟩ := rh.at_ q hk
          obtain ⟨j, rk, ey⟩ := key_rep hko rb
          subst e1 ey
          cases ro
          refine d_setItem hu I (DPut.k (v := v) e2 (by rw [← rr.length, ← line_eq]; exact hz)) ri rv fun s' I' => ⟨_, I', ?_⟩
          refine k _ (Grow.write rh q) (rh.write q (List.getElem?_eq_some_iff.mp hk).1 ?_)
          exact ⟨_, upd_same, (dput_rep rk rc rr).map fun _ _ => RepV.grow (Grow.write rh q)⟩
        · cases e
      · cases e
    · cases e
  · cases e
theorem size_str (s : List Nat) : (⟨s.toArray⟩ : Str).length = s.length := by
  show s.toArray.size = _
  simp
theorem tru_truth {X : Cx} {Γ : Gm} (C : X.K = Γ.K) : TruR X (fun x H Q => ∃ L m h a c, RepH Γ L m h H ∧ RepV Γ L m H a x ∧ truth h a = some c ∧ Q c H) := by
  intro pins s σ H x v Q I rx hq
  obtain ⟨L, m, h, a, c, rh, ra, e, k⟩ := hq
  refine tru_ok pins s σ H x v Q I rx ⟨c, ?_, k⟩
  have em : ∀ {xs : List Vl} {us : List V}, RepL Γ L m H xs us → (!xs.isEmpty) = !us.isEmpty := fun {xs us} r => by
    have := r.length
    cases xs <;> cases us <;> first | rfl | simp at this
  unfold truth at e
  split at e
  · cases (show x = _ from ra); cases e; rfl
  · cases (show x = _ from ra); cases e; rfl
  · cases (show x = _ from ra); cases e; rfl
  · rename_i z
    cases (show x = _ from ra)
    split at e
    · rename_i hz
      cases Option.some.inj e
      refine ⟨by rw [size_str, ← line_eq]; exact hz, ?_⟩
      rw [size_str]
      cases z with
      | nil => rfl
      | cons _ r =>
        show true = (((r.length + 1 : Nat) : Int) != 0)
        rw [bne_iff_ne.mpr (by omega)]
    · cases e
  · obtain ⟨p, us, rfl, q, rr⟩ := ra
    cases Option.some.inj e
    exact .inr (.inl ⟨us, by rw [C]; exact q, em rr⟩)
  · obtain ⟨p, us, rfl, q, _, _, rr⟩ := ra
    cases Option.some.inj e
    exact .inl ⟨us, SqL.of q, em rr⟩
  · obtain ⟨p, us, rfl, q, rr⟩ := ra
    cases Option.some.inj e
    refine .inl ⟨us, ?_, em rr⟩
    rcases q with ⟨o, q⟩ | q
    · exact .inl (.inr ⟨o, q⟩)
    · rw [C]
      exact .inr q
  · obtain ⟨p, rfl, q⟩ := ra
    split at e
    · rename_i xs hx
      cases Option.some.inj e
      obtain ⟨us, e2, rr⟩ := rh.at_ q hx
      exact .inl ⟨us, SqL.of e2, em rr⟩
    · rename_i xs hx
      cases Option.some.inj e
      obtain ⟨us, e2, rr⟩ := rh.at_ q hx
      refine .inr (.inr ⟨us, e2, ?_⟩)
      have := rr.length
      cases xs <;> cases us <;> first | rfl | simp at this
    · cases e
  · cases e
end Mi
set_option Elab.async false
set_option linter.all false
set_option maxRecDepth 100000
set_option maxHeartbeats 4000000
namespace Mi
open PySem PySem.Spec PyProof.Rows L2
section
variable {Γ : Gm} {L m : List Addr} {H : Hp}
theorem ints_rep : ∀ {xs : List Vl} {ns : List Int} {us : List V}, intsOf xs = some ns → RepL Γ L m H xs us → us = ns.map V.int
  | [], ns, [], e, _ => by cases Option.some.inj e; rfl
  | [], _, _ :: _, _, r => r.elim
  | _ :: _, _, [], _, r => r.elim
  | .int i :: xs, ns, u :: us, e, r => by
    have e' : (match intsOf xs with | some l => some (i :: l) | none => none) = some ns := e
    split at e'
    · rename_i l hl
      cases Option.some.inj e'
      rw [ints_rep hl r.2, List.map_cons]
      cases (show u = .int i from r.1)
      rfl
    · cases e'
  | .non :: _, _, _, e, _ => by cases e
  | .bl _ :: _, _, _, e, _ => by cases e
  | .str _ :: _, _, _, e, _ => by cases e
  | .tup _ :: _, _, _, e, _ => by cases e
  | .lst _ :: _, _, _, e, _ => by cases e
  | .scr _ :: _, _, _, e, _ => by cases e
  | .dct _ :: _, _, _, e, _ => by cases e
  | .ins _ _ :: _, _, _, e, _ => by cases e
  | .ref _ :: _, _, _, e, _ => by cases e
  | .fn _ :: _, _, _, e, _ => by cases e
  | .clo _ :: _, _, _, e, _ => by cases e
theorem bls_rep : ∀ {xs : List Vl} {ns : List Bool} {us : List V}, blsOf xs = some ns → RepL Γ L m H xs us → us = ns.map V.bl
  | [], ns, [], e, _ => by cases Option.some.inj e; rfl
  | [], _, _ :: _, _, r => r.elim
  | _ :: _, _, [], _, r => r.elim
  | .bl i :: xs, ns, u :: us, e, r => by
    have e' : (match blsOf xs with | some l => some (i :: l) | none => none) = some ns := e
    split at e'
    · rename_i l hl
      cases Option.some.inj e'
      rw [bls_rep hl r.2, List.map_cons]
      cases (show u = .bl i from r.1)
      rfl
    · cases e'
  | .non :: _, _, _, e, _ => by cases e
  | .int _ :: _, _, _, e, _ => by cases e
  | .str _ :: _, _, _, e, _ => by cases e
  | .tup _ :: _, _, _, e, _ => by cases e
  | .lst _ :: _, _, _, e, _ => by cases e
  | .scr _ :: _, _, _, e, _ => by cases e
  | .dct _ :: _, _, _, e, _ => by cases e
  | .ins _ _ :: _, _, _, e, _ => by cases e
  | .ref _ :: _, _, _, e, _ => by cases e
  | .fn _ :: _, _, _, e, _ => by cases e
  | .clo _ :: _, _, _, e, _ => by cases e
theorem ints_map {l : List Int} : RepL Γ L m H (l.map Vl.int) (l.map V.int) := by
  induction l with
  | nil => exact trivial
  | cons x r ih => exact ⟨rfl, ih⟩
end
theorem sumI_eq : ∀ l : List Int, sumI l = l.sum
  | [] => rfl
  | x :: r => by
    rw [List.sum_cons, ← sumI_eq r]
    rfl
theorem maxI_spec : ∀ {l : List Int} {m : Int}, maxI l = some m → m ∈ l ∧ ∀ y ∈ l, y ≤ m
  | [], _, e => by cases e
  | [x], m, e => by
    cases Option.some.inj e
    exact ⟨List.mem_cons_self, fun y hy => by rw [List.mem_singleton.mp hy]; exact Int.le_refl _⟩
  | x :: z :: r, m, e => by
    have e' : (match maxI (z :: r) with | some m => some (if x ≤ m then m else x) | none => none) = some m := e
    split at e'
    · rename_i k hk
      obtain ⟨h1, h2⟩ := maxI_spec hk
      cases Option.some.inj e'
      split
      · rename_i hx
        exact ⟨List.mem_cons_of_mem _ h1, fun y hy => (List.mem_cons.mp hy).elim (fun q => by rw [q]; exact hx) (h2 y)⟩
      · rename_i hx
        exact ⟨List.mem_cons_self, fun y hy => (List.mem_cons.mp hy).elim (fun q => by rw [q]; exact Int.le_refl _) fun q => by have := h2 y q; omega⟩
    · cases e'
theorem minI_spec : ∀ {l : List Int} {m : Int}, minI l = some m → m ∈ l ∧ ∀ y ∈ l, m ≤ y
  | [], _, e => by cases e
  | [x], m, e => by
    cases Option.some.inj e
    exact ⟨List.mem_cons_self, fun y hy => by rw [List.mem_singleton.mp hy]; exact Int.le_refl _⟩
  | x :: z :: r, m, e => by
    have e' : (match minI (z :: r) with | some m => some (if m ≤ x then m else x) | none => none) = some m := e
    split at e'
    · rename_i k hk
      obtain ⟨h1, h2⟩ := minI_spec hk
      cases Option.some.inj e'
      split
      · rename_i hx
        exact ⟨List.mem_cons_of_mem _ h1, fun y hy => (List.mem_cons.mp hy).elim (fun q => by rw [q]; exact hx) (h2 y)⟩
      · rename_i hx
        exact ⟨List.mem_cons_self, fun y hy => (List.mem_cons.mp hy).elim (fun q => by rw [q]; exact Int.le_refl _) fun q => by have := h2 y q; omega⟩
    · cases e'
theorem insI_perm (x : Int) : ∀ l : List Int, (insI x l).Perm (x :: l)
  | [] => .refl _
  | y :: r => by
    unfold insI
    split
    · exact .refl _
    · exact ((insI_perm x r).cons y).trans (.swap x y r)
theorem insI_sorted (x : Int) : ∀ {l : List Int}, l.Pairwise (· ≤ ·) → (insI x l).Pairwise (· ≤ ·)
  | [], _ => by simp [insI]
  | y :: r, h => by
    unfold insI
    split
    · rename_i hx
      exact .cons (fun z hz => (List.mem_cons.mp hz).elim (fun q => by rw [q]; exact hx) fun q => Int.le_trans hx ((List.pairwise_cons.mp h).1 z q)) h
    · rename_i hx
      refine .cons (fun z hz => ?_) (insI_sorted x (List.pairwise_cons.mp h).2)
      rcases List.mem_cons.mp ((insI_perm x r).mem_iff.mp hz) with q | q
      · rw [q]; omega
      · exact (List.pairwise_cons.mp h).1 z q
theorem sortI_perm : ∀ l : List Int, (sortI l).Perm l
  | [] => .refl _
  | x :: r => (insI_perm x (sortI r)).trans ((sortI_perm r).cons x)
theorem sortI_sorted : ∀ l : List Int, (sortI l).Pairwise (· ≤ ·)
  | [] => .nil
  | x :: r => insI_sorted x (sortI_sorted r)
theorem sorted_one : ∀ {a b : List Int}, a.Perm b → a.Pairwise (· ≤ ·) → b.Pairwise (· ≤ ·) → a = b
  | [], b, p, _, _ => (List.Perm.nil_eq p)
  | x :: a, [], p, _, _ => by have := p.length_eq; simp at this
  | x :: a, y :: b, p, h, g => by
    have e : x = y := by
      have h1 : x ∈ y :: b := p.mem_iff.mp List.mem_cons_self
      have h2 : y ∈ x :: a := p.mem_iff.mpr List.mem_cons_self
      have h3 : x ≤ y := (List.mem_cons.mp h2).elim (fun q => by omega) fun q => (List.pairwise_cons.mp h).1 y q
      have h4 : y ≤ x := (List.mem_cons.mp h1).elim (fun q => by omega) fun q => (List.pairwise_cons.mp g).1 x q
      omega
    subst e
    rw [sorted_one ((List.perm_cons x).mp p) (List.pairwise_cons.mp h).2 (List.pairwise_cons.mp g).2]
theorem sortI_one {l ns : List Int} (p : ns.Perm l) (h : ns.Pairwise (· ≤ ·)) : ns = sortI l := sorted_one (p.trans (sortI_perm l).symm) h (sortI_sorted l)
theorem sortI_rev {l ns : List Int} (p : ns.Perm l) (h : ns.Pairwise (· ≥ ·)) : ns = (sortI l).reverse := by
  have e := sortI_one (ns := ns.reverse) ((List.reverse_perm ns).trans p) (List.pairwise_reverse.mpr h)
  rw [← e, List.reverse_reverse]
def rF (Γ : Gm) (b : Bif) : List V → Hp → VK → Prop := fun xs H Q => ∃ L m h as v, RepH Γ L m h H ∧ RepL Γ L m H as xs ∧ bifV b h as = some v ∧ okV Γ L m H h v Q
theorem rep1 {Γ : Gm} {L m : List Addr} {H : Hp} {a : Vl} {xs : List V} (r : RepL Γ L m H [a] xs) : ∃ x, xs = [x] ∧ RepV Γ L m H a x := by
  cases xs with
  | nil => exact r.elim
  | cons x xs => cases xs with
    | nil => exact ⟨x, rfl, r.1⟩
    | cons _ _ => exact r.2.elim
theorem rep2 {Γ : Gm} {L m : List Addr} {H : Hp} {a b : Vl} {xs : List V} (r : RepL Γ L m H [a, b] xs) : ∃ x y, xs = [x, y] ∧ RepV Γ L m H a x ∧ RepV Γ L m H b y := by
  cases xs with
  | nil => exact r.elim
  | cons x xs =>
    obtain ⟨y, e, q⟩ := rep1 r.2
    exact ⟨x, y, by rw [e], r.1, q⟩
theorem rep0 {Γ : Gm} {L m : List Addr} {H : Hp} {xs : List V} (r : RepL Γ L m H [] xs) : xs = [] := by
  cases xs with
  | nil => rfl
  | cons _ _ => exact r.elim
theorem arg1_some {f : Vl → Option Vl} {xs : List Vl} {v : Vl} (e : arg1 f xs = some v) : ∃ a, xs = [a] ∧ f a = some v := by
  unfold arg1 at e
  split at e
  · exact ⟨_, rfl, e⟩
  · cases e
theorem arg2_some {f : Vl → Vl → Option Vl} {xs : List Vl} {v : Vl} (e : arg2 f xs = some v) : ∃ a b, xs = [a, b] ∧ f a b = some v := by
  unfold arg2 at e
  split at e
  · exact ⟨_, _, rfl, e⟩
  · cases e
theorem sqK {X : Cx} {Γ : Gm} (C : X.K = Γ.K) {H : Hp} {p : Addr} {us : List V} (q : SqL Γ.K H p us ∨ SqT Γ.K H p us) : SqL X.K H p us ∨ SqT X.K H p us := by
  rw [C]
  exact q
theorem cb_len {X : Cx} {Γ : Gm} (C : X.K = Γ.K) : CallR X (.builtin "len") (rF Γ .len) := by
  intro pins s σ H xs us Q I r hq
  obtain ⟨L, m, h, as, v, rh, ra, e, k⟩ := hq
  obtain ⟨a, rfl, e1⟩ := arg1_some (show arg1 (lenV h) as = some v from e)
  clear e
  have e := e1
  clear e1
  obtain ⟨x, rfl, rx⟩ := rep1 ra
  have sq : ∀ (xs : List Vl), seqOf h a = some xs → v = .int xs.length → wpAny (model X.prog X.w) X.A (call (.builtin "len") us) (EP X pins σ Q) X.xe s := fun xs ex ev => by
    obtain ⟨p, ws, e2, q, rr⟩ := seqOf_rep rh rx ex
    subst ev
    subst e2
    refine call_len_seq pins s σ H _ us Q I r ⟨p, ws, rfl, sqK C q, ?_⟩
    rw [← rr.length]
    exact k.now rh rfl
  unfold lenV at e
  split at e
  · rename_i z
    cases (show x = _ from rx)
    split at e
    · rename_i hz
      cases Option.some.inj e
      refine call_len_str pins s σ H _ us Q I r ⟨_, rfl, by rw [size_str, ← line_eq]; exact hz, ?_⟩
      rw [size_str]
      exact k.now rh rfl
    · cases e
  · rename_i n
    split at e
    · rename_i ys hy
      refine sq ys ?_ (Option.some.inj e).symm
      unfold seqOf
      dsimp only
      rw [hy]
    · rename_i ys hy
      cases Option.some.inj e
      obtain ⟨p, e1, q⟩ := rx
      obtain ⟨ws, e2, rr⟩ := rh.at_ q hy
      subst e1
      cases r with
      | cons r1 r2 =>
        cases r2
        cases r1
        refine d_len I (.inl e2) fun t s' I' => ⟨.int ws.length, H, I', ⟨t, rfl⟩, ?_⟩
        rw [← rr.length]
        exact k.now rh rfl
    · cases e
  · split at e
    · rename_i l hl
      exact sq l hl (Option.some.inj e).symm
    · cases e
theorem cb_abs {X : Cx} {Γ : Gm} : CallR X (.builtin "abs") (rF Γ .abs) := by
  intro pins s σ H xs us Q I r hq
  obtain ⟨L, m, h, as, v, rh, ra, e, k⟩ := hq
  obtain ⟨a, rfl, e1⟩ := arg1_some (show arg1 absV as = some v from e)
  replace e := e1
  obtain ⟨x, rfl, rx⟩ := rep1 ra
  unfold absV at e
  split at e
  · cases Option.some.inj e
    cases (show x = _ from rx)
    exact call_abs pins s σ H _ us Q I r ⟨_, rfl, k.now rh rfl⟩
  · cases e
theorem cb_max2 {X : Cx} {Γ : Gm} (hc : X.calm = true) : CallR X (.builtin "max") (rF Γ .max2) := by
  intro pins s σ H xs us Q I r hq
  obtain ⟨L, m, h, as, v, rh, ra, e, k⟩ := hq
  obtain ⟨a, b, rfl, e1⟩ := arg2_some (show arg2 max2V as = some v from e)
  replace e := e1
  obtain ⟨x, y, rfl, rx, ry⟩ := rep2 ra
  unfold max2V at e
  split at e
  · cases Option.some.inj e
    cases (show x = _ from rx)
    cases (show y = _ from ry)
    exact call_max2 hc pins s σ H _ us Q I r ⟨_, _, rfl, k.now rh rfl⟩
  · cases e
theorem cb_min2 {X : Cx} {Γ : Gm} (hc : X.calm = true) : CallR X (.builtin "min") (rF Γ .min2) := by
  intro pins s σ H xs us Q I r hq
  obtain ⟨L, m, h, as, v, rh, ra, e, k⟩ := hq
  obtain ⟨a, b, rfl, e1⟩ := arg2_some (show arg2 min2V as = some v from e)
  replace e := e1
  obtain ⟨x, y, rfl, rx, ry⟩ := rep2 ra
  unfold min2V at e
  split at e
  · cases Option.some.inj e
    cases (show x = _ from rx)
    cases (show y = _ from ry)
    exact call_min2 hc pins s σ H _ us Q I r ⟨_, _, rfl, k.now rh rfl⟩
  · cases e
theorem ofInts_some {h : Hh} {f : List Int → Option Int} {x v : Vl} (e : ofInts h f x = some v) : ∃ l ns i, lstOf h x = some l ∧ intsOf l = some ns ∧ f ns = some i ∧ v = .int i := by
  unfold ofInts at e
  split at e
  · rename_i l hl
    split at e
    · rename_i ns hn
      split at e
      · rename_i i hi
        exact ⟨l, ns, i, hl, hn, hi, (Option.some.inj e).symm⟩
      · cases e
    · cases e
  · cases e
theorem ofBls_some {h : Hh} {f : List Bool → Bool} {x v : Vl} (e : ofBls h f x = some v) : ∃ l ns, lstOf h x = some l ∧ blsOf l = some ns ∧ v = .bl (f ns) := by
  unfold ofBls at e
  split at e
  · rename_i l hl
    split at e
    · rename_i ns hn
      exact ⟨l, ns, hl, hn, (Option.some.inj e).symm⟩
    · cases e
  · cases e
theorem cb_maxl {X : Cx} {Γ : Gm} (hc : X.calm = true) : CallR X (.builtin "max") (rF Γ .maxl) := by
  intro pins s σ H xs us Q I r hq
  obtain ⟨L, m, h, as, v, rh, ra, e, k⟩ := hq
  obtain ⟨a, rfl, e1⟩ := arg1_some (show arg1 (ofInts h maxI) as = some v from e)
  replace e := e1
  obtain ⟨x, rfl, rx⟩ := rep1 ra
  obtain ⟨l, ns, i, h1, h2, h3, rfl⟩ := ofInts_some e
  obtain ⟨p, ws, rfl, q, rr⟩ := lstOf_rep rh rx h1
  cases ints_rep h2 rr
  obtain ⟨g1, g2⟩ := maxI_spec h3
  refine cr_max hc pins s σ H _ us Q I r ⟨p, ns, rfl, SqL.of q, List.length_pos_of_mem g1, fun j hj hle => ?_⟩
  have : j = i := by
    have := g2 j hj
    have := hle i g1
    omega
  subst this
  exact k.now rh rfl
theorem cb_minl {X : Cx} {Γ : Gm} (hc : X.calm = true) : CallR X (.builtin "min") (rF Γ .minl) := by
  intro pins s σ H xs us Q I r hq
  obtain ⟨L, m, h, as, v, rh, ra, e, k⟩ := hq
  obtain ⟨a, rfl, e1⟩ := arg1_some (show arg1 (ofInts h minI) as = some v from e)
  replace e := e1
  obtain ⟨x, rfl, rx⟩ := rep1 ra
  obtain ⟨l, ns, i, h1, h2, h3, rfl⟩ := ofInts_some e
  obtain ⟨p, ws, rfl, q, rr⟩ := lstOf_rep rh rx h1
  cases ints_rep h2 rr
  obtain ⟨g1, g2⟩ := minI_spec h3
  refine cr_min hc pins s σ H _ us Q I r ⟨p, ns, rfl, SqL.of q, List.length_pos_of_mem g1, fun j hj hle => ?_⟩
  have : j = i := by
    have := g2 j hj
    have := hle i g1
    omega
  subst this
  exact k.now rh rfl
theorem cb_sum {X : Cx} {Γ : Gm} (hc : X.calm = true) : CallR X (.builtin "sum") (rF Γ .sum) := by
  intro pins s σ H xs us Q I r hq
  obtain ⟨L, m, h, as, v, rh, ra, e, k⟩ := hq
  obtain ⟨a, rfl, e1⟩ := arg1_some (show arg1 (ofInts h fun l => some (sumI l)) as = some v from e)
  replace e := e1
  obtain ⟨x, rfl, rx⟩ := rep1 ra
  obtain ⟨l, ns, i, h1, h2, h3, rfl⟩ := ofInts_some e
  obtain ⟨p, ws, rfl, q, rr⟩ := lstOf_rep rh rx h1
  cases ints_rep h2 rr
  cases Option.some.inj h3
  refine cr_sum hc pins s σ H _ us Q I r ⟨p, ns, rfl, SqL.of q, ?_⟩
  rw [← sumI_eq]
  exact k.now rh rfl
theorem cb_all {X : Cx} {Γ : Gm} (hc : X.calm = true) : CallR X (.builtin "all") (rF Γ .all) := by
  intro pins s σ H xs us Q I r hq
  obtain ⟨L, m, h, as, v, rh, ra, e, k⟩ := hq
  obtain ⟨a, rfl, e1⟩ := arg1_some (show arg1 (ofBls h fun l => l.all id) as = some v from e)
  replace e := e1
  obtain ⟨x, rfl, rx⟩ := rep1 ra
  obtain ⟨l, ns, h1, h2, rfl⟩ := ofBls_some e
  obtain ⟨p, ws, rfl, q, rr⟩ := lstOf_rep rh rx h1
  cases bls_rep h2 rr
  exact cr_all hc pins s σ H _ us Q I r ⟨p, ns, rfl, SqL.of q, k.now rh rfl⟩
theorem cb_any {X : Cx} {Γ : Gm} (hc : X.calm = true) : CallR X (.builtin "any") (rF Γ .any) := by
  intro pins s σ H xs us Q I r hq
  obtain ⟨L, m, h, as, v, rh, ra, e, k⟩ := hq
  obtain ⟨a, rfl, e1⟩ := arg1_some (show arg1 (ofBls h fun l => l.any id) as = some v from e)
  replace e := e1
  obtain ⟨x, rfl, rx⟩ := rep1 ra
  obtain ⟨l, ns, h1, h2, rfl⟩ := ofBls_some e
  obtain ⟨p, ws, rfl, q, rr⟩ := lstOf_rep rh rx h1
  cases bls_rep h2 rr
  exact cr_any hc pins s σ H _ us Q I r ⟨p, ns, rfl, SqL.of q, k.now rh rfl⟩
theorem cb_int {X : Cx} {Γ : Gm} : CallR X (.type "int") (rF Γ .int) := by
  intro pins s σ H xs us Q I r hq
  obtain ⟨L, m, h, as, v, rh, ra, e, k⟩ := hq
  obtain ⟨a, rfl, e1⟩ := arg1_some (show arg1 intV as = some v from e)
  replace e := e1
  obtain ⟨x, rfl, rx⟩ := rep1 ra
  unfold intV at e
  split at e
  · cases Option.some.inj e
    cases (show x = _ from rx)
    exact call_int1 pins s σ H _ us Q I r (.inl ⟨_, rfl, k.now rh rfl⟩)
  · cases Option.some.inj e
    cases (show x = _ from rx)
    exact call_int1 pins s σ H _ us Q I r (.inr ⟨_, rfl, k.now rh rfl⟩)
  · cases e
theorem cb_tuple {X : Cx} {Γ : Gm} (C : X.K = Γ.K) : CallR X (.type "tuple") (rF Γ .tuple) := by
  intro pins s σ H xs us Q I r hq
  obtain ⟨L, m, h, as, v, rh, ra, e, k⟩ := hq
  obtain ⟨a, rfl, e1⟩ := arg1_some (show arg1 (tupleV h) as = some v from e)
  replace e := e1
  obtain ⟨x, rfl, rx⟩ := rep1 ra
  unfold tupleV at e
  split at e
  · rename_i l hl
    cases Option.some.inj e
    obtain ⟨p, ws, rfl, q, rr⟩ := seqOf_rep rh rx hl
    refine call_tuple_of pins s σ H _ us Q I r ⟨p, ws, rfl, ?_⟩
    rcases q with q | q
    · exact .inl ⟨by rw [C]; exact q, fun D hD => k.newT rh hD rr⟩
    · exact .inr ⟨by rw [C]; exact q, k.now rh ⟨p, ws, rfl, q, rr⟩⟩
  · cases e
theorem cb_list {X : Cx} {Γ : Gm} (C : X.K = Γ.K) : CallR X (.type "list") (fun xs H Q => ∃ L m h a x ys, xs = [x] ∧ RepH Γ L m h H ∧ RepV Γ L m H a x ∧ seqOf h a = some ys ∧ okN Γ L m H h ys Q) := by
  intro pins s σ H xs us Q I r hq
  obtain ⟨L, m, h, a, x, ys, rfl, rh, rx, e, k⟩ := hq
  obtain ⟨p, ws, rfl, q, rr⟩ := seqOf_rep rh rx e
  exact call_list_of pins s σ H _ us Q I r ⟨p, ws, rfl, sqK C q, fun D hD => k.new rh hD rr⟩
theorem cb_sorted {X : Cx} {Γ : Gm} : CallR X (.builtin "sorted") (fun xs H Q => ∃ L m h a x l ns, xs = [x] ∧ RepH Γ L m h H ∧ RepV Γ L m H a x ∧ lstOf h a = some l ∧ intsOf l = some ns ∧ okN Γ L m H h ((sortI ns).map .int) Q) := by
  intro pins s σ H xs us Q I r hq
  obtain ⟨L, m, h, a, x, l, ns, rfl, rh, rx, e, e2, k⟩ := hq
  obtain ⟨p, ws, rfl, q, rr⟩ := lstOf_rep rh rx e
  cases ints_rep e2 rr
  refine cr_sortedI pins s σ H _ us Q I r ⟨p, ns, rfl, SqL.of q, fun zs D pm so hD => ?_⟩
  have := sortI_one pm so
  subst this
  exact k.new rh hD ints_map
theorem cb_sortedR {X : Cx} {Γ : Gm} : CallRK X (.builtin "sorted") [Str.ofString "reverse"] (fun xs zs H Q => ∃ L m h a x l ns, xs = [x] ∧ zs = [.bl true] ∧ RepH Γ L m h H ∧ RepV Γ L m H a x ∧ lstOf h a = some l ∧ intsOf l = some ns ∧ okN Γ L m H h ((sortI ns).reverse.map .int) Q) := by
  intro pins s σ H xs zs us ws Q I r rz hq
  obtain ⟨L, m, h, a, x, l, ns, rfl, rfl, rh, rx, e, e2, k⟩ := hq
  obtain ⟨p, vs, rfl, q, rr⟩ := lstOf_rep rh rx e
  cases ints_rep e2 rr
  refine cr_sortedRev (b := true) pins s σ H _ _ us ws Q I r rz ⟨p, ns, rfl, rfl, SqL.of q, fun zs D pm so hD => ?_⟩
  have := sortI_rev pm (show zs.Pairwise (· ≥ ·) from so)
  subst this
  exact k.new rh hD ints_map
def rM (Γ : Gm) (t : Mth) : V → List V → Hp → VK → Prop := fun x xs H Q => ∃ L m h a as v h1, RepH Γ L m h H ∧ RepV Γ L m H a x ∧ RepL Γ L m H as xs ∧ mthV t h a as = .ok v h1 ∧ okV Γ L m H h1 v Q
theorem R.ok_inj {α : Type} {a b : α} {h k : Hh} (e : R.ok a h = R.ok b k) : a = b ∧ h = k := by
  injection e with e1 e2
  exact ⟨e1, e2⟩
theorem okV.wrote {Γ : Gm} {L m : List Addr} {H : Hp} {h : Hh} {n : Nat} {p : Addr} {xs xs' : List Vl} {us' : List V} {v : Vl} {u : V} {Q : VK} (rh : RepH Γ L m h H) (q : m[n]? = some p) (hx : h[n]? = some (.lst xs)) (k : okV Γ L m H (h.set n (.lst xs')) v Q) (rr : RepL Γ L m H xs' us') (rv : RepV Γ L m H v u) : Q u (upd H p (.lst us')) :=
  have g := Grow.write (o := .lst us') rh q
  k m _ u g (rh.write q (List.getElem?_eq_some_iff.mp hx).1 ⟨_, upd_same, rr.grow' g⟩) (rv.grow g)
theorem mb_append {X : Cx} {Γ : Gm} : MtR X "list.append" (rM Γ .append) := by
  intro pins s σ H x xs v us Q I rx rxs hq
  obtain ⟨L, m, h, a, as, z, h1, rh, ra, ras, e, k⟩ := hq
  unfold mthV at e
  dsimp only at e
  split at e
  · rename_i b
    obtain ⟨y, rfl, rb⟩ := rep1 ras
    unfold appendV at e
    split at e
    · rename_i n
      obtain ⟨p, rfl, q⟩ := ra
      split at e
      · rename_i l hl
        split at e
        · rename_i hz
          obtain ⟨rfl, rfl⟩ := R.ok_inj e
          obtain ⟨ws, e2, rr⟩ := rh.at_ q hl
          exact mt_append pins s σ H _ _ v us Q I rx rxs ⟨p, ws, y, rfl, rfl, e2, by rw [← rr.length, ← line_eq]; exact hz, k.wrote rh q hl (rr.append ⟨rb, trivial⟩) rfl⟩
        · cases e
      · cases e
    · cases e
  · cases e
theorem mb_extend {X : Cx} {Γ : Gm} : MtR X "list.extend" (rM Γ .extend) := by
  intro pins s σ H x xs v us Q I rx rxs hq
  obtain ⟨L, m, h, a, as, z, h1, rh, ra, ras, e, k⟩ := hq
  unfold mthV at e
  dsimp only at e
  split at e
  · rename_i b
    obtain ⟨y, rfl, rb⟩ := rep1 ras
    unfold extendV at e
    split at e
    · rename_i n
      obtain ⟨p, rfl, q⟩ := ra
      split at e
      · rename_i l hl
        split at e
        · rename_i ys
          split at e
          · rename_i hz
            obtain ⟨rfl, rfl⟩ := R.ok_inj e
            obtain ⟨ws, e2, rr⟩ := rh.at_ q hl
            obtain ⟨p2, ws2, rfl, e3, _, _, rr2⟩ := rb
            exact mt_extend pins s σ H _ _ v us Q I rx rxs ⟨p, p2, ws, ws2, rfl, rfl, e2, e3, by rw [← rr.length, ← rr2.length, ← line_eq]; exact hz, k.wrote rh q hl (rr.append rr2) rfl⟩
          · cases e
        · cases e
      · cases e
    · cases e
  · cases e
theorem RepL.eraseIdx {Γ : Gm} {L m : List Addr} {H : Hp} {xs : List Vl} {us : List V} (r : RepL Γ L m H xs us) (j : Nat) : RepL Γ L m H (xs.eraseIdx j) (us.eraseIdx j) := by
  induction j generalizing xs us with
  | zero => cases xs with
    | nil => cases us with
      | nil => exact trivial
      | cons _ _ => exact r.elim
    | cons y xs => cases us with
      | nil => exact r.elim
      | cons w us => exact r.2
  | succ j ih => cases xs with
    | nil => cases us with
      | nil => exact trivial
      | cons _ _ => exact r.elim
    | cons y xs => cases us with
      | nil => exact r.elim
      | cons w us => exact ⟨r.1, ih r.2⟩
theorem RepL.dropLast {Γ : Gm} {L m : List Addr} {H : Hp} {xs : List Vl} {us : List V} (r : RepL Γ L m H xs us) : RepL Γ L m H xs.dropLast us.dropLast := by
  rw [List.dropLast_eq_take, List.dropLast_eq_take, r.length]
  exact r.take _
theorem mb_pop0 {X : Cx} {Γ : Gm} : MtR X "list.pop" (rM Γ .pop0) := by
  intro pins s σ H x xs v us Q I rx rxs hq
  obtain ⟨L, m, h, a, as, z, h1, rh, ra, ras, e, k⟩ := hq
  unfold mthV at e
  dsimp only at e
  split at e
  · cases rep0 ras
    unfold popV at e
    split at e
    · rename_i n
      obtain ⟨p, rfl, q⟩ := ra
      split at e
      · rename_i l hl
        split at e
        · rename_i y hy
          obtain ⟨rfl, rfl⟩ := R.ok_inj e
          obtain ⟨ws, e2, rr⟩ := rh.at_ q hl
          rw [rr.length] at hy
          obtain ⟨w, hw, rw'⟩ := rr.get hy
          exact mt_pop pins s σ H _ _ v us Q I rx rxs ⟨p, ws, w, rfl, rfl, e2, hw, k.wrote rh q hl rr.dropLast rw'⟩
        · cases e
      · cases e
    · cases e
  · cases e
theorem mb_pop1 {X : Cx} {Γ : Gm} : MtR X "list.pop" (rM Γ .pop1) := by
  intro pins s σ H x xs v us Q I rx rxs hq
  obtain ⟨L, m, h, a, as, z, h1, rh, ra, ras, e, k⟩ := hq
  unfold mthV at e
  dsimp only at e
  split at e
  · rename_i b
    obtain ⟨y, rfl, rb⟩ := rep1 ras
    unfold popAtV at e
    split at e
    · rename_i n
      obtain ⟨p, rfl, q⟩ := ra
      split at e
      · rename_i l hl
        split at e
        · rename_i j
          cases (show y = _ from rb)
          split at e
          · rename_i hj
            split at e
            · rename_i w hw
              obtain ⟨rfl, rfl⟩ := R.ok_inj e
              obtain ⟨ws, e2, rr⟩ := rh.at_ q hl
              obtain ⟨w', hw', rw'⟩ := rr.get hw
              have hlt := (List.getElem?_eq_some_iff.mp hw').1
              refine mt_popAt pins s σ H _ _ v us Q I rx rxs ⟨p, ws, _, j, w', rfl, rfl, e2, ?_, ?_, ?_, hw', k.wrote rh q hl (rr.eraseIdx j) rw'⟩
              · show -(2 ^ 63) ≤ (j : Int)
                omega
              · show (j : Int) < 2 ^ 63
                omega
              · exact seqIndex_of (Int.natCast_nonneg j) (Int.ofNat_lt.mpr hlt)
            · cases e
          · cases e
        · cases e
      · cases e
    · cases e
  · cases e
end Mi
set_option Elab.async false
set_option linter.all false
set_option maxRecDepth 100000
set_option maxHeartbeats 4000000
namespace Mi
open PySem PySem.Spec PyProof.Rows L2
theorem pe_imp {X : Cx} {e : Expr} {t t' : TE} (h : PE X e t) (f : ∀ σ H Q, t' σ H Q → t σ H Q) : PE X e t' := ⟨fun pins s σ H Q I k => h.run pins s σ H Q I (f _ _ _ k)⟩
theorem pt_imp {X : Cx} {e : Expr} {t t' : TT} (h : PT X e t) (f : ∀ σ H Q, t' σ H Q → t σ H Q) : PT X e t' := ⟨fun pins s σ H Q I k => h.run pins s σ H Q I (f _ _ _ k)⟩
theorem pw_imp {X : Cx} {e : Expr} {t t' : TT} (h : PW X e t) (f : ∀ σ H Q, t' σ H Q → t σ H Q) : PW X e t' := ⟨fun wh pins s σ H Q I k => h.run wh pins s σ H Q I (f _ _ _ k)⟩
theorem pa_imp {X : Cx} {e : List Expr} {t t' : TA} (h : PA X e t) (f : ∀ σ H Q, t' σ H Q → t σ H Q) : PA X e t' := ⟨fun p pins s σ H Q I k => h.run p pins s σ H Q I (f _ _ _ k)⟩
theorem ps_imp {X : Cx} {e : Stmt} {t t' : TS} (h : PS X e t) (f : ∀ D σ H, t' D σ H → t D σ H) : PS X e t' := ⟨fun pins s σ H D I k => h.run pins s σ H D I (f _ _ _ k)⟩
theorem pss_imp {X : Cx} {e : List Stmt} {t t' : TS} (h : PSs X e t) (f : ∀ D σ H, t' D σ H → t D σ H) : PSs X e t' := ⟨fun pins s σ H D I k => h.run pins s σ H D I (f _ _ _ k)⟩
theorem pi_imp {X : Cx} {tg e : Expr} {t t' : TI} (h : PI X tg e t) (f : ∀ σ H Q, t' σ H Q → t σ H Q) : PI X tg e t' := ⟨fun pins s σ H Q I k => h.run pins s σ H Q I (f _ _ _ k)⟩
def RepX (Γ : Gm) (L m : List Addr) (H : Hp) (c : Nat) (p : Option Vl) (d : Option Addr) : Prop :=
  match p with
  | none => True
  | some v => ∃ a u, d = some a ∧ H a = some (.xd [(Γ.xf c, u)]) ∧ RepV Γ L m H v u
def okG {α β : Type} (Γ : Gm) (W : WX) (L m : List Addr) (H : Hp) (σ : L2.St) (rel : List Addr → Hp → α → β → Prop) (r : R α) (Q : β → Hp → Prop) : Prop :=
  match r with
  | .ok a h => ∀ m' H' u, Grow m H m' H' → RepH Γ L m' h H' → rel m' H' a u → Q u H'
  | .exc c p h => ∀ m' H' d, Grow m H m' H' → RepH Γ L m' h H' → RepX Γ L m' H' c p d → W (.ref (Γ.xa c)) d σ H'
  | .bad => False
theorem Grow.tr {Γ : Gm} {L m m1 m2 : List Addr} {H H1 H2 : Hp} {h1 : Hh} (a : Grow m H m1 H1) (r : RepH Γ L m1 h1 H1) (b : Grow m1 H1 m2 H2) : Grow m H m2 H2 :=
  a.trans b fun x hx => r.tracked x (a.mem hx)
section
variable {Γ : Gm} {W : WX} {L m : List Addr} {H : Hp} {σ : L2.St}
theorem okG.later {α β : Type} {rel : List Addr → Hp → α → β → Prop} {r : R α} {Q : β → Hp → Prop} (k : okG Γ W L m H σ rel r Q) {m1 : List Addr} {H1 : Hp} {h1 : Hh} (g : Grow m H m1 H1) (rh : RepH Γ L m1 h1 H1) : okG Γ W L m1 H1 σ rel r Q := by
  cases r with
  | ok a h => exact fun m' H' u g' => k m' H' u (g.tr rh g')
  | exc c p h => exact fun m' H' d g' => k m' H' d (g.tr rh g')
  | bad => exact k
theorem okG.bind {α β γ δ : Type} {rel : List Addr → Hp → α → β → Prop} {rel' : List Addr → Hp → γ → δ → Prop} {r : R α} {f : α → Hh → R γ} {Q : δ → Hp → Prop} {Q' : β → Hp → Prop} (k : okG Γ W L m H σ rel' (bnd r f) Q)
    (st : ∀ m1 H1 a h1 u, Grow m H m1 H1 → RepH Γ L m1 h1 H1 → rel m1 H1 a u → okG Γ W L m1 H1 σ rel' (f a h1) Q → Q' u H1) : okG Γ W L m H σ rel r Q' := by
  cases r with
  | ok a h => exact fun m' H' u g rh ru => st m' H' a h u g rh ru (okG.later k g rh)
  | exc c p h => exact k
  | bad => exact k
theorem bnd_bnd {α β γ : Type} (r : R α) (f : α → Hh → R β) (g : β → Hh → R γ) : bnd (bnd r f) g = bnd r fun a h => bnd (f a h) g := by
  cases r <;> rfl
theorem okG.lift {h : Hh} {o : Option Vl} {Q : VK} (k : okG Γ W L m H σ (fun m' H' => RepV Γ L m' H') (lift o h) Q) : ∃ z, o = some z ∧ okV Γ L m H h z Q := by
  cases o with
  | none => exact k.elim
  | some z => exact ⟨z, rfl, k⟩
end
def RepE (Γ : Gm) (L m : List Addr) (H : Hp) (env : Env) (σ : L2.St) : Prop := env.length = σ.length ∧ ∀ (i : Nat) v, env[i]? = some (some v) → ∃ u, σ[i]? = some (some u) ∧ RepV Γ L m H v u
theorem RepE.grow {Γ : Gm} {L m m1 : List Addr} {H H1 : Hp} {env : Env} {σ : L2.St} (g : Grow m H m1 H1) (r : RepE Γ L m H env σ) : RepE Γ L m1 H1 env σ := ⟨r.1, fun i v e => let ⟨u, h1, h2⟩ := r.2 i v e; ⟨u, h1, h2.grow g⟩⟩
structure Cn (X : Cx) (Γ : Gm) (W : WX) : Prop where
  prog : X.prog = Γ.P
  w : X.w = Γ.w
  K : X.K = Γ.K
  mg : X.mg = Γ.mg
  base : X.base = Γ.base
  calm : X.calm = true
  nd : X.N.Nodup
  un : X.A.units + 64 < cLine
  tk : Takes X W
theorem Cn.u1 {X : Cx} {Γ : Gm} {W : WX} (c : Cn X Γ W) : X.A.units + 1 < cLine := Nat.lt_of_le_of_lt (Nat.add_le_add_left (by decide : 1 ≤ 64) _) c.un
section
variable (Γ : Gm) (W : WX)
def tE (ev : Env → Hh → R Vl) : TE := fun σ H Q => ∃ L m h env, RepH Γ L m h H ∧ RepE Γ L m H env σ ∧ okG Γ W L m H σ (fun m' H' => RepV Γ L m' H') (ev env h) Q
def tL (ev : Env → Hh → R (List Vl)) : TA := fun σ H Q => ∃ L m h env, RepH Γ L m h H ∧ RepE Γ L m H env σ ∧ okG Γ W L m H σ (fun m' H' => RepL Γ L m' H') (ev env h) Q
def tB' (ev : Env → Hh → R Bool) : TT := fun σ H Q => ∃ L m h env, RepH Γ L m h H ∧ RepE Γ L m H env σ ∧ okG Γ W L m H σ (fun _ _ (a b : Bool) => a = b) (ev env h) Q
def tO' (ev : Env → Hh → R (Option Int)) : TO := fun σ H Q => ∃ L m h env, RepH Γ L m h H ∧ RepE Γ L m H env σ ∧ okG Γ W L m H σ (fun _ _ (a b : Option Int) => a = b) (ev env h) Q
def okF (L m : List Addr) (H : Hp) (σ : L2.St) (r : R (List Vl)) (Q : VK) : Prop :=
  match r with
  | .ok xs h => okN Γ L m H h xs Q
  | .exc c p h => ∀ m' H' d, Grow m H m' H' → RepH Γ L m' h H' → RepX Γ L m' H' c p d → W (.ref (Γ.xa c)) d σ H'
  | .bad => False
def tF (ev : Env → Hh → R (List Vl)) : TE := fun σ H Q => ∃ L m h env, RepH Γ L m h H ∧ RepE Γ L m H env σ ∧ okF Γ W L m H σ (ev env h) Q
end
def tru (ev : Env → Hh → R Vl) : Env → Hh → R Bool := fun env h => bnd (ev env h) fun x h => lift (truth h x) h
section
variable {Γ : Gm} {W : WX} {L m : List Addr} {H : Hp} {σ : L2.St}
theorem okN.later {h : Hh} {xs : List Vl} {Q : VK} (k : okN Γ L m H h xs Q) {m1 : List Addr} {H1 : Hp} {h1 : Hh} (g : Grow m H m1 H1) (rh : RepH Γ L m1 h1 H1) : okN Γ L m1 H1 h xs Q := fun m' H' D us g' hD n1 n2 e rr rh' => by
  refine k m' H' D us (g.tr rh g') ?_ n1 n2 e rr rh'
  rcases free_back g hD with z | z
  · exact z
  · obtain ⟨o, ho⟩ := rh.tracked D (g.mem z)
    rw [ho] at hD
    cases hD
theorem okF.later {r : R (List Vl)} {Q : VK} (k : okF Γ W L m H σ r Q) {m1 : List Addr} {H1 : Hp} {h h1 : Hh} (r0 : RepH Γ L m h H) (g : Grow m H m1 H1) (rh : RepH Γ L m1 h1 H1) : okF Γ W L m1 H1 σ r Q := by
  cases r with
  | ok a h => exact okN.later k g rh
  | exc c p h => exact fun m' H' d g' => k m' H' d (g.tr rh g')
  | bad => exact k
theorem okF.bind {α β : Type} {rel : List Addr → Hp → α → β → Prop} {r : R α} {f : α → Hh → R (List Vl)} {Q : VK} {Q' : β → Hp → Prop} {h : Hh} (r0 : RepH Γ L m h H) (k : okF Γ W L m H σ (bnd r f) Q)
    (st : ∀ m1 H1 a h1 u, Grow m H m1 H1 → RepH Γ L m1 h1 H1 → rel m1 H1 a u → okF Γ W L m1 H1 σ (f a h1) Q → Q' u H1) : okG Γ W L m H σ rel r Q' := by
  cases r with
  | ok a h => exact fun m' H' u g rh ru => st m' H' a h u g rh ru (okF.later k r0 g rh)
  | exc c p h => exact k
  | bad => exact k
theorem okF.lift {h : Hh} {o : Option (List Vl)} {Q : VK} (k : okF Γ W L m H σ (lift o h) Q) : ∃ z, o = some z ∧ okN Γ L m H h z Q := by
  cases o with
  | none => exact k.elim
  | some z => exact ⟨z, rfl, k⟩
theorem okF.fz {r : R (List Vl)} {Q : VK} {h : Hh} (r0 : RepH Γ L m h H) (k : okG Γ W L m H σ (fun m' H' => RepV Γ L m' H') (bnd r fun xs h => .ok (.lst xs) h) Q) : okF Γ W L m H σ r Q := by
  cases r with
  | ok xs h => exact fun m' H' D us g hD n1 n2 e rr rh => k m' H' (.ref D) g rh.joined ⟨D, us, rfl, e, n1, n2, rr.joined⟩
  | exc c p h => exact k
  | bad => exact k
theorem okF.th {r : R (List Vl)} {Q : VK} {h : Hh} (r0 : RepH Γ L m h H) (k : okG Γ W L m H σ (fun m' H' => RepV Γ L m' H') (bnd r fun xs h => .ok (.ref h.length) (h ++ [.lst xs])) Q) : okF Γ W L m H σ r Q := by
  cases r with
  | ok xs h =>
    refine fun m' H' D us g hD n1 n2 e rr rh => k (m' ++ [D]) H' (.ref D) ⟨?_, g.keep, g.tup, g.frz, g.own⟩ (rh.moved n1 n2 e rr) ⟨D, rfl, ?_⟩
    · obtain ⟨t, e1, f⟩ := g.ext
      refine ⟨t ++ [D], by rw [e1, List.append_assoc], fun a ha => ?_⟩
      rcases List.mem_append.mp ha with z | z
      · exact f a z
      · rw [List.mem_singleton.mp z]
        exact hD
    · rw [← rh.len, List.getElem?_append_right (Nat.le_refl _), Nat.sub_self]
      rfl
  | exc c p h => exact k
  | bad => exact k
end
section
variable {X : Cx} {Γ : Gm} {W : WX} {a b c : Expr} {pos : Pos} {ea eb ec : Env → Hh → R Vl}
theorem s_var {i : Nat} {x : Str} (hN : X.N[i]? = some x) (hv : Vis X.env.scope x) (hd : (x == ("__debug__" : Str)) = false) (hcd : (x == ("__classdict__" : Str)) = false) :
    PE X (.Name x pos) (tE Γ W fun env h => match env[i]? with
      | some (some v) => .ok v h
      | _ => .bad) := by
  refine pe_imp (pe_var hN hv hd hcd) fun σ H Q hq => ?_
  obtain ⟨L, m, h, env, rh, re, k⟩ := hq
  dsimp only at k
  split at k
  · rename_i v hv
    obtain ⟨u, e, r⟩ := re.2 i v hv
    exact ⟨u, e, k m H u (Grow.refl m H) rh r⟩
  · exact k.elim
theorem s_const {v : Vl} {u : V} {e : Expr} (h : PE X e (tC u)) (r : ∀ L m H, RepV Γ L m H v u) : PE X e (tE Γ W fun _ h => .ok v h) := by
  refine pe_imp h fun σ H Q hq => ?_
  obtain ⟨L, m, h, env, rh, re, k⟩ := hq
  exact k m H u (Grow.refl m H) rh (r _ _ _)
theorem s_bin (C : Cn X Γ W) (o : BO) (ha : PE X a (tE Γ W ea)) (hb : PE X b (tE Γ W eb)) :
    PE X (.BinOp a (bo o) b pos) (tE Γ W fun env h => bnd (ea env h) fun x h => bnd (eb env h) fun y h => lift (binV o h x y) h) := by
  refine pe_imp (pe_op (op_binV (Γ := Γ) C.K o) ha hb) fun σ H Q hq => ?_
  obtain ⟨L, m, h, env, rh, re, k⟩ := hq
  refine ⟨L, m, h, env, rh, re, k.bind fun m1 H1 x h1 u g1 rh1 rx k1 => ⟨L, m1, h1, env, rh1, re.grow g1, k1.bind fun m2 H2 y h2 v g2 rh2 ry k2 => ?_⟩⟩
  obtain ⟨z, ez, kz⟩ := k2.lift
  exact ⟨L, m2, h2, x, y, z, rh2, rx.grow g2, ry, ez, kz⟩
theorem s_cat (C : Cn X Γ W) (ha : PE X a (tE Γ W ea)) (hb : PE X b (tE Γ W eb)) :
    PE X (.BinOp a .Add b pos) (tF Γ W fun env h => bnd (ea env h) fun x h => bnd (eb env h) fun y h => lift (catV h x y) h) := by
  refine pe_imp (pe_op (op_catV (Γ := Γ)) ha hb) fun σ H Q hq => ?_
  obtain ⟨L, m, h, env, rh, re, k⟩ := hq
  refine ⟨L, m, h, env, rh, re, okF.bind rh k fun m1 H1 x h1 u g1 rh1 rx k1 => ⟨L, m1, h1, env, rh1, re.grow g1, okF.bind rh1 k1 fun m2 H2 y h2 v g2 rh2 ry k2 => ?_⟩⟩
  obtain ⟨z, ez, kz⟩ := k2.lift
  exact ⟨L, m2, h2, x, y, z, rh2, rx.grow g2, ry, ez, kz⟩
theorem s_rep (C : Cn X Γ W) (ha : PE X a (tE Γ W ea)) (hb : PE X b (tE Γ W eb)) :
    PE X (.BinOp a .Mult b pos) (tF Γ W fun env h => bnd (ea env h) fun x h => bnd (eb env h) fun y h => lift (repV h x y) h) := by
  refine pe_imp (pe_op (op_repV (Γ := Γ)) ha hb) fun σ H Q hq => ?_
  obtain ⟨L, m, h, env, rh, re, k⟩ := hq
  refine ⟨L, m, h, env, rh, re, okF.bind rh k fun m1 H1 x h1 u g1 rh1 rx k1 => ⟨L, m1, h1, env, rh1, re.grow g1, okF.bind rh1 k1 fun m2 H2 y h2 v g2 rh2 ry k2 => ?_⟩⟩
  obtain ⟨z, ez, kz⟩ := k2.lift
  exact ⟨L, m2, h2, x, y, z, rh2, rx.grow g2, ry, ez, kz⟩
def negV : Vl → Hh → R Vl := fun x h => match x with
  | .int i => .ok (.int (-i)) h
  | _ => .bad
theorem s_neg (ha : PE X a (tE Γ W ea)) : PE X (.UnaryOp .USub a pos) (tE Γ W fun env h => bnd (ea env h) negV) := by
  refine pe_imp (pe_un un_neg ha) fun σ H Q hq => ?_
  obtain ⟨L, m, h, env, rh, re, k⟩ := hq
  refine ⟨L, m, h, env, rh, re, k.bind fun m1 H1 x h1 u g1 rh1 rx k1 => ?_⟩
  unfold negV at k1
  split at k1
  · exact ⟨_, rx, k1 m1 H1 _ (Grow.refl _ _) rh1 rfl⟩
  · exact k1.elim
def cmpR (o : CO) (h : Hh) (x y : Vl) : R Vl := match cmpV o h x y with
  | some c => .ok (.bl c) h
  | none => .bad
theorem cmpR_some {L m : List Addr} {H : Hp} {σ : L2.St} {o : CO} {h : Hh} {x y : Vl} {γ δ : Type} {rel : List Addr → Hp → γ → δ → Prop} {f : Vl → Hh → R γ} {Q : δ → Hp → Prop} (k : okG Γ W L m H σ rel (bnd (cmpR o h x y) f) Q) : ∃ c, cmpV o h x y = some c ∧ okG Γ W L m H σ rel (f (.bl c) h) Q := by
  unfold cmpR at k
  split at k
  · rename_i c hc
    exact ⟨c, hc, k⟩
  · exact k.elim
theorem bnd_ok {α : Type} (r : R α) : bnd r (fun a h => .ok a h) = r := by cases r <;> rfl
theorem s_cmp (C : Cn X Γ W) (o : CO) (ha : PE X a (tE Γ W ea)) (hb : PE X b (tE Γ W eb)) (hm : behindInMarks (co o) b = false) :
    PE X (.Compare a [co o] [b] pos) (tE Γ W fun env h => bnd (ea env h) fun x h => bnd (eb env h) fun y h => cmpR o h x y) := by
  refine pe_imp (pe_cmpR (op_cmpV (Γ := Γ) C.K C.un o) ha hb hm) fun σ H Q hq => ?_
  obtain ⟨L, m, h, env, rh, re, k⟩ := hq
  refine ⟨L, m, h, env, rh, re, k.bind fun m1 H1 x h1 u g1 rh1 rx k1 => ⟨L, m1, h1, env, rh1, re.grow g1, k1.bind fun m2 H2 y h2 v g2 rh2 ry k2 => ?_⟩⟩
  rw [← bnd_ok (cmpR o h2 x y)] at k2
  obtain ⟨c, ec, kc⟩ := cmpR_some k2
  exact ⟨L, m2, h2, x, y, c, rh2, rx.grow g2, ry, ec, kc m2 H2 _ (Grow.refl _ _) rh2 rfl⟩
theorem t_cmp (C : Cn X Γ W) (o : CO) (ha : PE X a (tE Γ W ea)) (hb : PE X b (tE Γ W eb)) (hm : behindInMarks (co o) b = false) :
    PT X (.Compare a [co o] [b] pos) (tB' Γ W (tru fun env h => bnd (ea env h) fun x h => bnd (eb env h) fun y h => cmpR o h x y)) := by
  refine pt_imp (pt_cmpR (op_cmpV (Γ := Γ) C.K C.un o) ha hb hm) fun σ H Q hq => ?_
  obtain ⟨L, m, h, env, rh, re, k⟩ := hq
  unfold tru at k
  rw [bnd_bnd] at k
  refine ⟨L, m, h, env, rh, re, k.bind fun m1 H1 x h1 u g1 rh1 rx k1 => ?_⟩
  rw [bnd_bnd] at k1
  refine ⟨L, m1, h1, env, rh1, re.grow g1, k1.bind fun m2 H2 y h2 v g2 rh2 ry k2 => ?_⟩
  obtain ⟨c, ec, kc⟩ := cmpR_some k2
  exact ⟨L, m2, h2, x, y, c, rh2, rx.grow g2, ry, ec, c, rfl, kc m2 H2 c (Grow.refl _ _) rh2 rfl⟩
def chainR (o : CO) (h : Hh) (x y : Vl) (f : R Vl) : R Vl := match cmpV o h x y with
  | some true => f
  | some false => .ok (.bl false) h
  | none => .bad
theorem s_chain (C : Cn X Γ W) (o p : CO) (ha : PE X a (tE Γ W ea)) (hb : PE X b (tE Γ W eb)) (hc : PE X c (tE Γ W ec)) (hm : lastMarks [co o, co p] [b, c] = false) :
    PE X (.Compare a [co o, co p] [b, c] pos) (tE Γ W fun env h => bnd (ea env h) fun x h => bnd (eb env h) fun y h => chainR o h x y (bnd (ec env h) fun z h => cmpR p h y z)) := by
  refine pe_imp (pe_chain (op_cmpV (Γ := Γ) C.K C.un o) (op_cmpV (Γ := Γ) C.K C.un p) ha hb hc hm) fun σ H Q hq => ?_
  obtain ⟨L, m, h, env, rh, re, k⟩ := hq
  refine ⟨L, m, h, env, rh, re, k.bind fun m1 H1 x h1 u g1 rh1 rx k1 => ⟨L, m1, h1, env, rh1, re.grow g1, k1.bind fun m2 H2 y h2 v g2 rh2 ry k2 => ?_⟩⟩
  unfold chainR at k2
  split at k2
  · rename_i ec
    refine ⟨L, m2, h2, x, y, true, rh2, rx.grow g2, ry, ec, true, rfl, ?_⟩
    rw [if_pos rfl]
    refine ⟨L, m2, h2, env, rh2, (re.grow g1).grow g2, k2.bind fun m3 H3 z h3 w g3 rh3 rz k3 => ?_⟩
    rw [← bnd_ok (cmpR p h3 y z)] at k3
    obtain ⟨d, ed, kd⟩ := cmpR_some k3
    exact ⟨L, m3, h3, y, z, d, rh3, ry.grow g3, rz, ed, kd m3 H3 _ (Grow.refl _ _) rh3 rfl⟩
  · rename_i ec
    refine ⟨L, m2, h2, x, y, false, rh2, rx.grow g2, ry, ec, false, rfl, ?_⟩
    rw [if_neg Bool.false_ne_true]
    exact k2 m2 H2 _ (Grow.refl _ _) rh2 rfl
  · exact k2.elim
theorem t_chain (C : Cn X Γ W) (o p : CO) (ha : PE X a (tE Γ W ea)) (hb : PE X b (tE Γ W eb)) (hc : PE X c (tE Γ W ec)) (hm : lastMarks [co o, co p] [b, c] = false) :
    PT X (.Compare a [co o, co p] [b, c] pos) (tB' Γ W (tru fun env h => bnd (ea env h) fun x h => bnd (eb env h) fun y h => chainR o h x y (bnd (ec env h) fun z h => cmpR p h y z))) := by
  refine pt_imp (pt_chain (op_cmpV (Γ := Γ) C.K C.un o) (op_cmpV (Γ := Γ) C.K C.un p) ha hb hc hm) fun σ H Q hq => ?_
  obtain ⟨L, m, h, env, rh, re, k⟩ := hq
  unfold tru at k
  rw [bnd_bnd] at k
  refine ⟨L, m, h, env, rh, re, k.bind fun m1 H1 x h1 u g1 rh1 rx k1 => ?_⟩
  rw [bnd_bnd] at k1
  refine ⟨L, m1, h1, env, rh1, re.grow g1, k1.bind fun m2 H2 y h2 v g2 rh2 ry k2 => ?_⟩
  unfold chainR at k2
  split at k2
  · rename_i ec
    refine ⟨L, m2, h2, x, y, true, rh2, rx.grow g2, ry, ec, true, rfl, ?_⟩
    rw [if_pos rfl]
    rw [bnd_bnd] at k2
    refine ⟨L, m2, h2, env, rh2, (re.grow g1).grow g2, k2.bind fun m3 H3 z h3 w g3 rh3 rz k3 => ?_⟩
    obtain ⟨d, ed, kd⟩ := cmpR_some k3
    exact ⟨L, m3, h3, y, z, d, rh3, ry.grow g3, rz, ed, d, rfl, kd m3 H3 _ (Grow.refl _ _) rh3 rfl⟩
  · rename_i ec
    refine ⟨L, m2, h2, x, y, false, rh2, rx.grow g2, ry, ec, false, rfl, ?_⟩
    rw [if_neg Bool.false_ne_true]
    exact ⟨false, rfl, k2 m2 H2 _ (Grow.refl _ _) rh2 rfl⟩
  · exact k2.elim
theorem t_plain (C : Cn X Γ W) (ha : PE X a (tE Γ W ea)) (he : ∀ whole, isTrue a X.env whole = (do let v ← whole; standAt a.pos; holding [v] (truthy v))) : PT X a (tB' Γ W (tru ea)) := by
  refine ⟨fun pins s σ H Q I hq => ?_⟩
  obtain ⟨L, m, h, env, rh, re, k⟩ := hq
  refine isTrue_plain (thn (ha.run pins s σ H (fun x H1 => ∃ L m h a c, RepH Γ L m h H1 ∧ RepV Γ L m H1 a x ∧ truth h a = some c ∧ Q c H1) I ⟨L, m, h, env, rh, re, k.bind fun m1 H1 x h1 u g1 rh1 rx k1 => ?_⟩) fun v s1 ⟨x, H1, I1, r1, q1⟩ => tru_truth C.K pins s1 σ H1 x v Q I1 r1 q1) (he _)
  cases ht : truth h1 x with
  | none =>
    rw [ht] at k1
    exact k1.elim
  | some c =>
    rw [ht] at k1
    exact ⟨L, m1, h1, x, c, rh1, rx, ht, k1 m1 H1 c (Grow.refl _ _) rh1 rfl⟩
def andR (x : Vl) (h : Hh) (f : R Vl) : R Vl := match x with
  | .bl true => f
  | .bl false => .ok (.bl false) h
  | _ => .bad
def orR (x : Vl) (h : Hh) (f : R Vl) : R Vl := match x with
  | .bl true => .ok (.bl true) h
  | .bl false => f
  | _ => .bad
theorem okG.now {L m : List Addr} {H : Hp} {σ : L2.St} {α β : Type} {rel : List Addr → Hp → α → β → Prop} {v : α} {u : β} {h : Hh} {Q : β → Hp → Prop} (k : okG Γ W L m H σ rel (.ok v h) Q) (rh : RepH Γ L m h H) (r : rel m H v u) : Q u H := k m H u (Grow.refl _ _) rh r
theorem s_and1 {p : Pos} (ha : PE X a (tE Γ W ea)) : PE X (.BoolOp .And [a] p) (tE Γ W ea) := pe_one ha
theorem s_or1 {p : Pos} (ha : PE X a (tE Γ W ea)) : PE X (.BoolOp .Or [a] p) (tE Γ W ea) := pe_one ha
theorem w_and1 {p : Pos} (ha : PT X a (tB' Γ W (tru ea))) : PW X (.BoolOp .And [a] p) (tB' Γ W (tru ea)) := pw_and1 ha
theorem w_or1 {p : Pos} (ha : PT X a (tB' Γ W (tru ea))) : PW X (.BoolOp .Or [a] p) (tB' Γ W (tru ea)) := pw_or1 ha
theorem s_and {es : List Expr} (ha : PE X a (tE Γ W ea)) (hb : PE X (.BoolOp .And (b :: es) pos) (tE Γ W eb)) : PE X (.BoolOp .And (a :: b :: es) pos) (tE Γ W fun env h => bnd (ea env h) fun x h => andR x h (eb env h)) := by
  refine pe_imp (pe_and ha hb) fun σ H Q hq => ?_
  obtain ⟨L, m, h, env, rh, re, k⟩ := hq
  refine ⟨L, m, h, env, rh, re, k.bind fun m1 H1 x h1 u g1 rh1 rx k1 => ?_⟩
  unfold andR at k1
  split at k1
  · refine ⟨true, rx, ?_⟩
    rw [if_pos rfl]
    exact ⟨L, m1, h1, env, rh1, re.grow g1, k1⟩
  · refine ⟨false, rx, ?_⟩
    rw [if_neg Bool.false_ne_true]
    exact k1.now rh1 rfl
  · exact k1.elim
theorem s_or {es : List Expr} (ha : PE X a (tE Γ W ea)) (hb : PE X (.BoolOp .Or (b :: es) pos) (tE Γ W eb)) : PE X (.BoolOp .Or (a :: b :: es) pos) (tE Γ W fun env h => bnd (ea env h) fun x h => orR x h (eb env h)) := by
  refine pe_imp (pe_or ha hb) fun σ H Q hq => ?_
  obtain ⟨L, m, h, env, rh, re, k⟩ := hq
  refine ⟨L, m, h, env, rh, re, k.bind fun m1 H1 x h1 u g1 rh1 rx k1 => ?_⟩
  unfold orR at k1
  split at k1
  · refine ⟨true, rx, ?_⟩
    rw [if_pos rfl]
    exact k1.now rh1 rfl
  · refine ⟨false, rx, ?_⟩
    rw [if_neg Bool.false_ne_true]
    exact ⟨L, m1, h1, env, rh1, re.grow g1, k1⟩
  · exact k1.elim
theorem w_and {es : List Expr} (ha : PT X a (tB' Γ W (tru ea))) (hb : PW X (.BoolOp .And (b :: es) pos) (tB' Γ W (tru eb))) : PW X (.BoolOp .And (a :: b :: es) pos) (tB' Γ W (tru fun env h => bnd (ea env h) fun x h => andR x h (eb env h))) := by
  refine pw_imp (pw_and ha hb) fun σ H Q hq => ?_
  obtain ⟨L, m, h, env, rh, re, k⟩ := hq
  unfold tru at k
  rw [bnd_bnd] at k
  refine ⟨L, m, h, env, rh, re, ?_⟩
  unfold tru
  cases hr : ea env h with
  | exc c p h1 =>
    rw [hr] at k
    exact k
  | bad =>
    rw [hr] at k
    exact k
  | ok x h1 =>
    rw [hr] at k
    show okG Γ W L m H σ _ (lift (truth h1 x) h1) _
    have k : okG Γ W L m H σ (fun _ _ (a b : Bool) => a = b) (bnd (andR x h1 (eb env h1)) fun x h => lift (truth h x) h) Q := k
    unfold andR at k
    split at k
    · intro m1 H1 u g1 rh1 e
      cases e
      rw [if_pos rfl]
      exact ⟨L, m1, h1, env, rh1, re.grow g1, okG.later k g1 rh1⟩
    · intro m1 H1 u g1 rh1 e
      cases e
      rw [if_neg Bool.false_ne_true]
      exact k m1 H1 false g1 rh1 rfl
    · exact k.elim
theorem w_or {es : List Expr} (ha : PT X a (tB' Γ W (tru ea))) (hb : PW X (.BoolOp .Or (b :: es) pos) (tB' Γ W (tru eb))) : PW X (.BoolOp .Or (a :: b :: es) pos) (tB' Γ W (tru fun env h => bnd (ea env h) fun x h => orR x h (eb env h))) := by
  refine pw_imp (pw_or ha hb) fun σ H Q hq => ?_
  obtain ⟨L, m, h, env, rh, re, k⟩ := hq
  unfold tru at k
  rw [bnd_bnd] at k
  refine ⟨L, m, h, env, rh, re, ?_⟩
  unfold tru
  cases hr : ea env h with
  | exc c p h1 =>
    rw [hr] at k
    exact k
  | bad =>
    rw [hr] at k
    exact k
  | ok x h1 =>
    rw [hr] at k
    show okG Γ W L m H σ _ (lift (truth h1 x) h1) _
    have k : okG Γ W L m H σ (fun _ _ (a b : Bool) => a = b) (bnd (orR x h1 (eb env h1)) fun x h => lift (truth h x) h) Q := k
    unfold orR at k
    split at k
    · intro m1 H1 u g1 rh1 e
      cases e
      rw [if_pos rfl]
      exact k m1 H1 true g1 rh1 rfl
    · intro m1 H1 u g1 rh1 e
      cases e
      rw [if_neg Bool.false_ne_true]
      exact ⟨L, m1, h1, env, rh1, re.grow g1, okG.later k g1 rh1⟩
    · exact k.elim
def notR (x : Vl) (h : Hh) : R Vl := match truth h x with
  | some b => .ok (.bl (!b)) h
  | none => .bad
theorem t_not (ha : PT X a (tB' Γ W (tru ea))) : PT X (.UnaryOp .Not a pos) (tB' Γ W (tru fun env h => bnd (ea env h) notR)) := by
  refine pt_imp (pt_not ha) fun σ H Q hq => ?_
  obtain ⟨L, m, h, env, rh, re, k⟩ := hq
  unfold tru at k
  rw [bnd_bnd] at k
  refine ⟨L, m, h, env, rh, re, ?_⟩
  unfold tru
  cases hr : ea env h with
  | exc c p h1 =>
    rw [hr] at k
    exact k
  | bad =>
    rw [hr] at k
    exact k
  | ok x h1 =>
    rw [hr] at k
    show okG Γ W L m H σ _ (lift (truth h1 x) h1) _
    have k : okG Γ W L m H σ (fun _ _ (a b : Bool) => a = b) (bnd (notR x h1) fun x h => lift (truth h x) h) Q := k
    unfold notR at k
    cases ht : truth h1 x with
    | none =>
      rw [ht] at k
      exact k.elim
    | some b =>
      rw [ht] at k
      intro m1 H1 u g1 rh1 e
      cases e
      exact k m1 H1 (!b) g1 rh1 rfl
theorem s_not (C : Cn X Γ W) (ha : PE X a (tE Γ W ea)) : PE X (.UnaryOp .Not a pos) (tE Γ W fun env h => bnd (ea env h) notR) := by
  refine ⟨fun pins s σ H Q I hq => ?_⟩
  obtain ⟨L, m, h, env, rh, re, k⟩ := hq
  refine UnaryOp_ (thn (ha.run pins s σ H (fun x H1 => ∃ L m h a c, RepH Γ L m h H1 ∧ RepV Γ L m H1 a x ∧ truth h a = some c ∧ Q (.bl (!c)) H1) I ⟨L, m, h, env, rh, re, k.bind fun m1 H1 x h1 u g1 rh1 rx k1 => ?_⟩) fun v s1 ⟨x, H1, I1, r1, L, m, h, a, c, q1, q2, q3, q4⟩ =>
    not_of (thn (tru_truth C.K pins s1 σ H1 x v (fun c H2 => Q (.bl (!c)) H2) I1 r1 ⟨L, m, h, a, c, q1, q2, q3, q4⟩) fun b s2 ⟨H2, I2, q⟩ => ⟨.bl (!b), H2, I2, rfl, q⟩))
  unfold notR at k1
  split at k1
  · rename_i b hb
    exact ⟨L, m1, h1, x, b, rh1, rx, hb, k1.now rh1 rfl⟩
  · exact k1.elim
def iteR (x : Vl) (h : Hh) (f g : R Vl) : R Vl := match truth h x with
  | some true => f
  | some false => g
  | none => .bad
theorem s_ite (hc : PT X c (tB' Γ W (tru ec))) (ha : PE X a (tE Γ W ea)) (hb : PE X b (tE Γ W eb)) : PE X (.IfExp c a b pos) (tE Γ W fun env h => bnd (ec env h) fun x h => iteR x h (ea env h) (eb env h)) := by
  refine pe_imp (pe_ifExp hc ha hb) fun σ H Q hq => ?_
  obtain ⟨L, m, h, env, rh, re, k⟩ := hq
  dsimp only at k
  refine ⟨L, m, h, env, rh, re, ?_⟩
  unfold tru
  cases hr : ec env h with
  | exc c p h1 =>
    rw [hr] at k
    exact k
  | bad =>
    rw [hr] at k
    exact k
  | ok x h1 =>
    rw [hr] at k
    have k : okG Γ W L m H σ (fun m' H' => RepV Γ L m' H') (iteR x h1 (ea env h1) (eb env h1)) Q := k
    show okG Γ W L m H σ _ (lift (truth h1 x) h1) _
    unfold iteR at k
    split at k
    · rename_i ht
      rw [ht]
      intro m1 H1 u g1 rh1 e
      cases e
      rw [if_pos rfl]
      exact ⟨L, m1, h1, env, rh1, re.grow g1, okG.later k g1 rh1⟩
    · rename_i ht
      rw [ht]
      intro m1 H1 u g1 rh1 e
      cases e
      rw [if_neg Bool.false_ne_true]
      exact ⟨L, m1, h1, env, rh1, re.grow g1, okG.later k g1 rh1⟩
    · exact k.elim
theorem t_ite (hc : PT X c (tB' Γ W (tru ec))) (ha : PT X a (tB' Γ W (tru ea))) (hb : PT X b (tB' Γ W (tru eb))) : PT X (.IfExp c a b pos) (tB' Γ W (tru fun env h => bnd (ec env h) fun x h => iteR x h (ea env h) (eb env h))) := by
  refine ⟨fun pins s σ H Q I hq => ?_⟩
  obtain ⟨L, m, h, env, rh, re, k⟩ := hq
  unfold tru at k
  rw [bnd_bnd] at k
  refine isTrue_IfExp (thn (hc.run pins s σ H (fun d H1 => if d = true then tB' Γ W (tru ea) σ H1 Q else tB' Γ W (tru eb) σ H1 Q) I ⟨L, m, h, env, rh, re, ?_⟩) fun d s1 ⟨H1, I1, q1⟩ => ?_)
  · unfold tru
    cases hr : ec env h with
    | exc c p h1 =>
      rw [hr] at k
      exact k
    | bad =>
      rw [hr] at k
      exact k
    | ok x h1 =>
      rw [hr] at k
      have k : okG Γ W L m H σ (fun _ _ (a b : Bool) => a = b) (bnd (iteR x h1 (ea env h1) (eb env h1)) fun x h => lift (truth h x) h) Q := k
      show okG Γ W L m H σ _ (lift (truth h1 x) h1) _
      unfold iteR at k
      split at k
      · rename_i ht
        rw [ht]
        intro m1 H1 u g1 rh1 e
        cases e
        rw [if_pos rfl]
        exact ⟨L, m1, h1, env, rh1, re.grow g1, okG.later k g1 rh1⟩
      · rename_i ht
        rw [ht]
        intro m1 H1 u g1 rh1 e
        cases e
        rw [if_neg Bool.false_ne_true]
        exact ⟨L, m1, h1, env, rh1, re.grow g1, okG.later k g1 rh1⟩
      · exact k.elim
  · cases d with
    | true => exact ha.run pins s1 σ H1 Q I1 q1
    | false => exact hb.run pins s1 σ H1 Q I1 q1
variable {es : List Expr} {el : Env → Hh → R (List Vl)}
theorem a_nil : PA X [] (tL Γ W fun _ h => .ok [] h) := by
  refine pa_imp pa_nil fun σ H Q hq => ?_
  obtain ⟨L, m, h, env, rh, re, k⟩ := hq
  exact k.now (u := []) rh trivial
theorem a_cons (ha : PE X a (tE Γ W ea)) (hr : PA X es (tL Γ W el)) (hs : starEach (a :: es) X.env = (false, eval a X.env) :: starEach es X.env) :
    PA X (a :: es) (tL Γ W fun env h => bnd (ea env h) fun x h => bnd (el env h) fun xs h => .ok (x :: xs) h) := by
  refine pa_imp (pa_cons ha hr hs) fun σ H Q hq => ?_
  obtain ⟨L, m, h, env, rh, re, k⟩ := hq
  exact ⟨L, m, h, env, rh, re, k.bind fun m1 H1 x h1 u g1 rh1 rx k1 => ⟨L, m1, h1, env, rh1, re.grow g1, k1.bind fun m2 H2 xs h2 us g2 rh2 rxs k2 => k2.now (u := u :: us) rh2 ⟨rx.grow g2, rxs⟩⟩⟩
def starR (x : Vl) (h : Hh) (f : R (List Vl)) : R (List Vl) := match seqOf h x with
  | some ys => bnd f fun xs h => .ok (ys ++ xs) h
  | none => .bad
theorem a_star {p : Pos} (C : Cn X Γ W) (ha : PE X a (tE Γ W ea)) (hr : PA X es (tL Γ W el)) :
    PA X (.Starred a p :: es) (tL Γ W fun env h => bnd (ea env h) fun x h => starR x h (el env h)) := by
  refine pa_imp (StX.pa_star ha hr) fun σ H Q hq => ?_
  obtain ⟨L, m, h, env, rh, re, k⟩ := hq
  refine ⟨L, m, h, env, rh, re, k.bind fun m1 H1 x h1 u g1 rh1 rx k1 => ?_⟩
  unfold starR at k1
  split at k1
  · rename_i ys hy
    obtain ⟨q, us, e, sq, rr⟩ := seqOf_rep rh1 rx hy
    refine ⟨q, us, e, ?_, L, m1, h1, env, rh1, re.grow g1, k1.bind fun m2 H2 xs h2 vs g2 rh2 rxs k2 => k2.now (u := us ++ vs) rh2 ((rr.grow' g2).append rxs)⟩
    rw [C.K]
    exact sq.symm
  · exact k1.elim
def tupR (xs : List Vl) (h : Hh) : R Vl := match decide (xs.length ≤ line) with
  | true => .ok (.tup xs) h
  | false => .bad
theorem s_tup {k} (ha : PA X es (tL Γ W el)) : PE X (.Tuple es k pos) (tE Γ W fun env h => bnd (el env h) tupR) := by
  refine pe_imp (pe_tup ha) fun σ H Q hq => ?_
  obtain ⟨L, m, h, env, rh, re, k⟩ := hq
  refine ⟨L, m, h, env, rh, re, k.bind fun m1 H1 xs h1 us g1 rh1 rx k1 => ?_⟩
  unfold tupR at k1
  split at k1
  · rename_i hd
    refine ⟨by rw [← rx.length, ← line_eq]; exact of_decide_eq_true hd, fun p hp => ?_⟩
    exact okV.newT k1 rh1 hp rx
  · exact k1.elim
def dispR (xs : List Vl) (h : Hh) : R (List Vl) := match decide (xs.length ≤ line) with
  | true => .ok xs h
  | false => .bad
theorem f_disp (ha : PA X es (tL Γ W el)) : PE X (.List es pos) (tF Γ W fun env h => bnd (el env h) dispR) := by
  refine pe_imp (pe_lst ha) fun σ H Q hq => ?_
  obtain ⟨L, m, h, env, rh, re, k⟩ := hq
  refine ⟨L, m, h, env, rh, re, okF.bind rh k fun m1 H1 xs h1 us g1 rh1 rx k1 => ?_⟩
  unfold dispR at k1
  split at k1
  · rename_i hd
    refine ⟨by rw [← rx.length, ← line_eq]; exact of_decide_eq_true hd, fun p hp => ?_⟩
    exact okN.new k1 rh1 hp rx
  · exact k1.elim
theorem s_fz {ef : Env → Hh → R (List Vl)} (h : PE X a (tF Γ W ef)) : PE X a (tE Γ W fun env h => bnd (ef env h) fun xs h => .ok (.lst xs) h) := by
  refine pe_imp h fun σ H Q hq => ?_
  obtain ⟨L, m, h, env, rh, re, k⟩ := hq
  exact ⟨L, m, h, env, rh, re, okF.fz rh k⟩
theorem s_th {ef : Env → Hh → R (List Vl)} (h : PE X a (tF Γ W ef)) : PE X a (tE Γ W fun env h => bnd (ef env h) fun xs h => .ok (.ref h.length) (h ++ [.lst xs])) := by
  refine pe_imp h fun σ H Q hq => ?_
  obtain ⟨L, m, h, env, rh, re, k⟩ := hq
  exact ⟨L, m, h, env, rh, re, okF.th rh k⟩
theorem s_sub (C : Cn X Γ W) (ha : PE X a (tE Γ W ea)) (hb : PE X b (tE Γ W eb)) (hs : PlainIx b) :
    PE X (.Subscript a b pos) (tE Γ W fun env h => bnd (ea env h) fun x h => bnd (eb env h) fun y h => lift (subV h x y) h) := by
  refine pe_imp (pe_ix (ix_sub (Γ := Γ) C.K C.u1) ha hb hs) fun σ H Q hq => ?_
  obtain ⟨L, m, h, env, rh, re, k⟩ := hq
  refine ⟨L, m, h, env, rh, re, k.bind fun m1 H1 x h1 u g1 rh1 rx k1 => ⟨L, m1, h1, env, rh1, re.grow g1, k1.bind fun m2 H2 y h2 v g2 rh2 ry k2 => ?_⟩⟩
  obtain ⟨z, ez, kz⟩ := k2.lift
  exact ⟨L, m2, h2, x, y, z, rh2, rx.grow g2, ry, ez, kz⟩
theorem o_none : PO X none (tO' Γ W fun _ h => .ok none h) := by
  refine ⟨fun pins s σ H Q I hq => po_none.run pins s σ H Q I ?_⟩
  obtain ⟨L, m, h, env, rh, re, k⟩ := hq
  exact k.now (u := none) rh rfl
def partR (x : Vl) (h : Hh) : R (Option Int) := match x with
  | .int i => .ok (some i) h
  | _ => .bad
theorem o_some (ha : PE X a (tE Γ W ea)) : PO X (some a) (tO' Γ W fun env h => bnd (ea env h) partR) := by
  refine ⟨fun pins s σ H Q I hq => (po_some ha).run pins s σ H Q I ?_⟩
  obtain ⟨L, m, h, env, rh, re, k⟩ := hq
  refine ⟨L, m, h, env, rh, re, k.bind fun m1 H1 x h1 u g1 rh1 rx k1 => ?_⟩
  unfold partR at k1
  split at k1
  · rename_i i
    exact ⟨i, rx, k1.now (u := some i) rh1 rfl⟩
  · exact k1.elim
variable {lo hi : Option Expr} {eo eu : Env → Hh → R (Option Int)} {p2 : Pos}
theorem s_slc (C : Cn X Γ W) (ha : PE X a (tE Γ W ea)) (hl : PO X lo (tO' Γ W eo)) (hu : PO X hi (tO' Γ W eu)) :
    PE X (.Subscript a (.Slice lo hi none p2) pos) (tE Γ W fun env h => bnd (ea env h) fun x h => bnd (eo env h) fun l h => bnd (eu env h) fun u h => lift (cutW h x l u) h) := by
  refine pe_imp (pe_slice (sl_cut (Γ := Γ) C.K) ha hl hu) fun σ H Q hq => ?_
  obtain ⟨L, m, h, env, rh, re, k⟩ := hq
  refine ⟨L, m, h, env, rh, re, k.bind fun m1 H1 x h1 u g1 rh1 rx k1 => ⟨L, m1, h1, env, rh1, re.grow g1, k1.bind fun m2 H2 l h2 v g2 rh2 el k2 => ?_⟩⟩
  cases el
  refine ⟨L, m2, h2, env, rh2, (re.grow g1).grow g2, k2.bind fun m3 H3 l' h3 v' g3 rh3 el' k3 => ?_⟩
  cases el'
  obtain ⟨z, ez, kz⟩ := k3.lift
  exact ⟨L, m3, h3, x, z, rh3, (rx.grow g2).grow g3, ez, kz⟩
def cutR (x : Vl) (l u : Option Int) (h : Hh) : R (List Vl) := match lstOf h x with
  | some xs => .ok (cut xs l u) h
  | none => .bad
theorem f_slf (C : Cn X Γ W) (ha : PE X a (tE Γ W ea)) (hl : PO X lo (tO' Γ W eo)) (hu : PO X hi (tO' Γ W eu)) :
    PE X (.Subscript a (.Slice lo hi none p2) pos) (tF Γ W fun env h => bnd (ea env h) fun x h => bnd (eo env h) fun l h => bnd (eu env h) fun u h => cutR x l u h) := by
  refine pe_imp (pe_slice (sl_cutN (Γ := Γ)) ha hl hu) fun σ H Q hq => ?_
  obtain ⟨L, m, h, env, rh, re, k⟩ := hq
  refine ⟨L, m, h, env, rh, re, okF.bind rh k fun m1 H1 x h1 u g1 rh1 rx k1 => ⟨L, m1, h1, env, rh1, re.grow g1, okF.bind rh1 k1 fun m2 H2 l h2 v g2 rh2 el k2 => ?_⟩⟩
  cases el
  refine ⟨L, m2, h2, env, rh2, (re.grow g1).grow g2, okF.bind rh2 k2 fun m3 H3 l' h3 v' g3 rh3 el' k3 => ?_⟩
  cases el'
  unfold cutR at k3
  split at k3
  · rename_i xs hx
    exact ⟨L, m3, h3, x, xs, rh3, (rx.grow g2).grow g3, hx, k3⟩
  · exact k3.elim
end
end Mi
set_option Elab.async false
set_option linter.all false
set_option maxRecDepth 100000
set_option maxHeartbeats 4000000
namespace Mi
open PySem PySem.Spec PyProof.Rows L2
def spC (Γ : Gm) (cf : CF) (f : Nat) : Sp := fun vs H Q E => ∃ L m h args, RepH Γ L m h H ∧ RepL Γ L m H args vs ∧ okG Γ (fun c d _ H' => E c d H') L m H [] (fun m' H' => RepV Γ L m' H') (cf f args h) Q
structure FnI (Γ : Gm) (cf : CF) (k : Nat) (f : Nat) : Prop where
  kp : PySem.W.keepIn Γ.K (.ref (Γ.fa f)) = true
  ok : ∃ fd ps, FnOk Γ.P Γ.w Γ.K Γ.mg Γ.base (L2.CX Γ.P Γ.w) k (Γ.fa f) fd ps (spC Γ cf f) ∧ Binds Γ.K fd ps []
theorem okG.at {Γ : Gm} {W : WX} {L m : List Addr} {H : Hp} {σ : L2.St} {α β : Type} {rel : List Addr → Hp → α → β → Prop} {r : R α} {Q : β → Hp → Prop} (k : okG Γ W L m H σ rel r Q) : okG Γ (fun c d _ H' => WE W σ c d H') L m H [] rel r Q := by
  cases r with
  | ok a h => exact k
  | exc c p h => exact k
  | bad => exact k
def isStar : Expr → Bool
  | .Starred _ _ => true
  | _ => false
def noStars : List Expr → Bool
  | [] => true
  | e :: r => match isStar e with
    | true => false
    | false => noStars r
theorem star_cons {e : Expr} {es : List Expr} {env : PySem.Env} (h : isStar e = false) : starEach (e :: es) env = (false, eval e env) :: starEach es env := by
  cases e <;> first | rfl | (cases h)
theorem noStars_cons {e : Expr} {es : List Expr} (h : noStars (e :: es) = true) : isStar e = false ∧ noStars es = true := by
  unfold noStars at h
  split at h
  · cases h
  · rename_i q
    exact ⟨q, h⟩
theorem noStars_any {env : PySem.Env} {pos : Pos} : ∀ {es : List Expr}, noStars es = true → (backTo pos (starEach es env)).any (·.1) = false
  | [], _ => rfl
  | e :: es, h => by
    obtain ⟨h1, h2⟩ := noStars_cons h
    rw [star_cons h1]
    show (false || (backTo pos (starEach es env)).any (·.1)) = false
    rw [noStars_any h2]
    rfl
section
variable {X : Cx} {Γ : Gm} {W : WX} {cf : CF} {k : Nat} {f : Nat} {x : Str} {p pos : Pos} {e : Expr} {es : List Expr} {el : Env → Hh → R (List Vl)}
theorem run_c (C : Cn X Γ W) (F : FnI Γ cf k f) (hr : Room k X.A) {pins : List (Addr × Obj)} {σ : L2.St} {H : Hp} {s : Shared} {Q : VK} {us : List Value} {vs : List V} {L m : List Addr} {h : Hh} {args : List Vl} (I : Inv X pins σ H s) (r : Vals vs us)
    (rh : RepH Γ L m h H) (ra : RepL Γ L m H args vs) (kk : okG Γ W L m H σ (fun m' H' => RepV Γ L m' H') (cf f args h) Q) : wpAny (model X.prog X.w) X.A (call (.ref (Γ.fa f)) us) (EP X pins σ Q) X.xe s := by
  obtain ⟨fd, ps, F', hb⟩ := F.ok
  rw [← C.prog, ← C.w, ← C.K, ← C.mg, ← C.base] at F'
  rw [← C.K] at hb
  exact run_fnS F' hr hb (passAt C.tk σ) I r ⟨L, m, h, args, rh, ra, kk.at⟩
theorem s_call0 (C : Cn X Γ W) (F : FnI Γ cf k f) (hr : Room k X.A) (hg : Gl X x) (hm : Γ.mg x = some (.ref (Γ.fa f))) (hdb : (x == ("__debug__" : Str)) = false) :
    PE X (.Call (.Name x p) [] [] pos) (tE Γ W fun env h => cf f [] h) := by
  have hk := F.kp
  rw [← C.K] at hk
  rw [← C.mg] at hm
  refine ⟨fun pins s σ H Q I hq => ?_⟩
  obtain ⟨L, m, h, env, rh, re, kk⟩ := hq
  refine wpAny_Call_Name_kw (ld_glob I hg hm ?_ hdb)
  exact PySem.W.callWith_K0 I.kIn hk (run_c (us := []) (vs := []) (args := []) C F hr I .nil rh trivial kk)
theorem s_call (C : Cn X Γ W) (F : FnI Γ cf k f) (hr : Room k X.A) (hg : Gl X x) (hm : Γ.mg x = some (.ref (Γ.fa f))) (hdb : (x == ("__debug__" : Str)) = false) (ha : PA X (e :: es) (tL Γ W el)) (hst : noStars (e :: es) = true) :
    PE X (.Call (.Name x p) (e :: es) [] pos) (tE Γ W fun env h => bnd (el env h) fun xs h => cf f xs h) := by
  have hk := F.kp
  rw [← C.K] at hk
  rw [← C.mg] at hm
  obtain ⟨h1, h2⟩ := noStars_cons hst
  refine ⟨fun pins s σ H Q I hq => ?_⟩
  obtain ⟨L, m, h, env, rh, re, kk⟩ := hq
  refine wpAny_Call_Name_kw (ld_glob I hg hm ?_ hdb)
  refine PySem.W.callWith_K (h₀ := X.base) I.ok.mod.kin hk (thn (ha.run pos pins s σ H (fun vs H1 => ∃ L m h args, RepH Γ L m h H1 ∧ RepL Γ L m H1 args vs ∧ okG Γ W L m H1 σ (fun m' H' => RepV Γ L m' H') (cf f args h) Q) I ⟨L, m, h, env, rh, re, kk.bind fun m1 H1 xs h1 us g1 rh1 rx k1 => ⟨L, m1, h1, xs, rh1, rx, k1⟩⟩) fun us s1 ⟨vs, H1, I1, r, L', m', h', args, a1, a2, a3⟩ => ⟨I1.kIn, ?_⟩) (star_cons h1) (noStars_any h2)
  exact run_c C F hr I1 r a1 a2 a3
theorem s_callv {i : Nat} (C : Cn X Γ W) (F : ∀ f, FnI Γ cf k f) (hr : Room k X.A) (hN : X.N[i]? = some x) (hv : Vis X.env.scope x) (hdb : (x == ("__debug__" : Str)) = false) (hcd : (x == ("__classdict__" : Str)) = false) (ha : PA X (e :: es) (tL Γ W el)) (hst : noStars (e :: es) = true) :
    PE X (.Call (.Name x p) (e :: es) [] pos) (tE Γ W fun env h => match env[i]? with
      | some (some (.fn f)) => bnd (el env h) fun xs h => cf f xs h
      | _ => .bad) := by
  obtain ⟨h1, h2⟩ := noStars_cons hst
  refine ⟨fun pins s σ H Q I hq => ?_⟩
  obtain ⟨L, m, h, env, rh, re, kk⟩ := hq
  dsimp only at kk
  split at kk
  · rename_i f hf
    obtain ⟨u, e1, r⟩ := re.2 i _ hf
    refine wpAny_Call_Name_kw (thn ((pe_var (pos := p) hN hv hdb hcd).run pins s σ H (fun v H1 => v = .ref (Γ.fa f) ∧ H1 = H) I ⟨u, e1, r, rfl⟩) fun u s1 ⟨v, H1, I1, r1, q1⟩ => ?_)
    obtain ⟨rfl, rfl⟩ := q1
    cases r1
    have hk := (F f).kp
    rw [← C.K] at hk
    refine PySem.W.callWith_K (h₀ := X.base) I.ok.mod.kin hk (thn (ha.run pos pins s1 σ H1 (fun vs H1 => ∃ L m h args, RepH Γ L m h H1 ∧ RepL Γ L m H1 args vs ∧ okG Γ W L m H1 σ (fun m' H' => RepV Γ L m' H') (cf f args h) Q) I1 ⟨L, m, h, env, rh, re, kk.bind fun m1 H1 xs h1 us g1 rh1 rx k1 => ⟨L, m1, h1, xs, rh1, rx, k1⟩⟩) fun us s1 ⟨vs, H1, I1, r, L', m', h', args, a1, a2, a3⟩ => ⟨I1.kIn, ?_⟩) (star_cons h1) (noStars_any h2)
    exact run_c C (F f) hr I1 r a1 a2 a3
  · exact kk.elim
theorem s_callB {b : Bif} {id : String} (hc : CallR X (.builtin id) (rF Γ b)) (hg : Gl X x) (hm : X.mg x = none) (hv : bootBuiltins x = some (.builtin id)) (ha : PA X (e :: es) (tL Γ W el)) (hn : x ≠ "__name__") (hdb : (x == ("__debug__" : Str)) = false) (hst : noStars (e :: es) = true) :
    PE X (.Call (.Name x p) (e :: es) [] pos) (tE Γ W fun env h => bnd (el env h) fun xs h => lift (bifV b h xs) h) := by
  obtain ⟨h1, h2⟩ := noStars_cons hst
  refine pe_imp (pe_callB hc hg hm hv ha hn hdb (star_cons h1) (noStars_any h2)) fun σ H Q hq => ?_
  obtain ⟨L, m, h, env, rh, re, kk⟩ := hq
  refine ⟨L, m, h, env, rh, re, kk.bind fun m1 H1 xs h1 us g1 rh1 rx k1 => ?_⟩
  obtain ⟨z, ez, kz⟩ := k1.lift
  exact ⟨L, m1, h1, xs, z, rh1, rx, ez, kz⟩
theorem s_callT {b : Bif} {id : String} (hc : CallR X (.type id) (rF Γ b)) (hg : Gl X x) (hm : X.mg x = none) (hv : bootBuiltins x = some (.type id)) (ha : PA X (e :: es) (tL Γ W el)) (hn : x ≠ "__name__") (hdb : (x == ("__debug__" : Str)) = false) (hst : noStars (e :: es) = true) :
    PE X (.Call (.Name x p) (e :: es) [] pos) (tE Γ W fun env h => bnd (el env h) fun xs h => lift (bifV b h xs) h) := by
  obtain ⟨h1, h2⟩ := noStars_cons hst
  refine pe_imp (pe_callTy hc hg hm hv ha hn hdb (star_cons h1) (noStars_any h2)) fun σ H Q hq => ?_
  obtain ⟨L, m, h, env, rh, re, kk⟩ := hq
  refine ⟨L, m, h, env, rh, re, kk.bind fun m1 H1 xs h1 us g1 rh1 rx k1 => ?_⟩
  obtain ⟨z, ez, kz⟩ := k1.lift
  exact ⟨L, m1, h1, xs, z, rh1, rx, ez, kz⟩
def bifNm : Bif → String
  | .len => "len"
  | .abs => "abs"
  | .max2 => "max"
  | .min2 => "min"
  | .maxl => "max"
  | .minl => "min"
  | .int => "int"
  | .tuple => "tuple"
  | .sum => "sum"
  | .all => "all"
  | .any => "any"
  | _ => ""
theorem s_bif (C : Cn X Γ W) {b : Bif} (hg : Gl X (bifNm b)) (hb : bifNm b ≠ "") (hm : Γ.mg (bifNm b) = none) (ha : PA X (e :: es) (tL Γ W el)) (hst : noStars (e :: es) = true) :
    PE X (.Call (.Name (bifNm b) p) (e :: es) [] pos) (tE Γ W fun env h => bnd (el env h) fun xs h => lift (bifV b h xs) h) := by
  rw [← C.mg] at hm
  cases b with
  | len => exact s_callB (cb_len C.K) hg hm PySem.boot_len ha (by decide) (by decide) hst
  | abs => exact s_callB cb_abs hg hm PyProof.Rows.boot_abs ha (by decide) (by decide) hst
  | max2 => exact s_callB (cb_max2 C.calm) hg hm PyProof.Rows.boot_max ha (by decide) (by decide) hst
  | min2 => exact s_callB (cb_min2 C.calm) hg hm PyProof.Rows.boot_min ha (by decide) (by decide) hst
  | maxl => exact s_callB (cb_maxl C.calm) hg hm PyProof.Rows.boot_max ha (by decide) (by decide) hst
  | minl => exact s_callB (cb_minl C.calm) hg hm PyProof.Rows.boot_min ha (by decide) (by decide) hst
  | int => exact s_callT cb_int hg hm PyProof.Rows.boot_int ha (by decide) (by decide) hst
  | tuple => exact s_callT (cb_tuple C.K) hg hm PyProof.Rows.boot_tuple ha (by decide) (by decide) hst
  | sum => exact s_callB (cb_sum C.calm) hg hm PyProof.Rows.boot_sum ha (by decide) (by decide) hst
  | all => exact s_callB (cb_all C.calm) hg hm PyProof.Rows.boot_all ha (by decide) (by decide) hst
  | any => exact s_callB (cb_any C.calm) hg hm PyProof.Rows.boot_any ha (by decide) (by decide) hst
  | _ => exact absurd rfl hb
def listR (x : Vl) (h : Hh) : R (List Vl) := lift (seqOf h x) h
theorem f_list {ea : Env → Hh → R Vl} (C : Cn X Γ W) (hg : Gl X "list") (hm : Γ.mg "list" = none) (ha : PE X e (tE Γ W ea)) (hst : isStar e = false) :
    PE X (.Call (.Name "list" p) [e] [] pos) (tF Γ W fun env h => bnd (ea env h) listR) := by
  rw [← C.mg] at hm
  refine pe_imp (pe_callTy (cb_list (Γ := Γ) C.K) hg hm PyProof.Rows.boot_list (pa_cons ha pa_nil (star_cons hst)) (by decide) (by decide) (star_cons hst) rfl) fun σ H Q hq => ?_
  obtain ⟨L, m, h, env, rh, re, kk⟩ := hq
  refine ⟨L, m, h, env, rh, re, okF.bind rh kk fun m1 H1 x h1 u g1 rh1 rx k1 => ?_⟩
  obtain ⟨z, ez, kz⟩ := k1.lift
  exact ⟨L, m1, h1, x, u, z, rfl, rh1, rx, ez, kz⟩
def srtR (rev : Bool) (x : Vl) (h : Hh) : R (List Vl) := match lstOf h x with
  | some l => match intsOf l with
    | some l => match rev with
      | true => .ok ((sortI l).reverse.map .int) h
      | false => .ok ((sortI l).map .int) h
    | none => .bad
  | none => .bad
theorem f_sorted {ea : Env → Hh → R Vl} (C : Cn X Γ W) (hg : Gl X "sorted") (hm : Γ.mg "sorted" = none) (ha : PE X e (tE Γ W ea)) (hst : isStar e = false) :
    PE X (.Call (.Name "sorted" p) [e] [] pos) (tF Γ W fun env h => bnd (ea env h) (srtR false)) := by
  rw [← C.mg] at hm
  refine pe_imp (pe_callB (cb_sorted (Γ := Γ)) hg hm PyProof.Rows.boot_sorted (pa_cons ha pa_nil (star_cons hst)) (by decide) (by decide) (star_cons hst) rfl) fun σ H Q hq => ?_
  obtain ⟨L, m, h, env, rh, re, kk⟩ := hq
  refine ⟨L, m, h, env, rh, re, okF.bind rh kk fun m1 H1 x h1 u g1 rh1 rx k1 => ?_⟩
  unfold srtR at k1
  split at k1
  · rename_i l hl
    split at k1
    · rename_i l2 hl2
      exact ⟨L, m1, h1, x, u, l, l2, rfl, rh1, rx, hl, hl2, k1⟩
    · exact k1.elim
  · exact k1.elim
theorem f_sortedR {ea : Env → Hh → R Vl} {j : Nat} {p2 p3 : Pos} (C : Cn X Γ W) (hg : Gl X "sorted") (hm : Γ.mg "sorted" = none) (ha : PE X e (tE Γ W ea)) (hst : isStar e = false) :
    PE X (.Call (.Name "sorted" p) [e] [⟨some "reverse", .Constant (.bool true) j p2, p3⟩] pos) (tF Γ W fun env h => bnd (ea env h) (srtR true)) := by
  rw [← C.mg] at hm
  have hh : backTo pos (starEach [e] X.env) = (false, eval e X.env) :: backTo pos (starEach [] X.env) := by
    rw [star_cons hst]
    rfl
  refine pe_imp (pe_callBK (cb_sortedR (Γ := Γ)) hg hm PyProof.Rows.boot_sorted (pa_cons ha pa_nil (star_cons hst)) (pk_cons pe_bl pk_nil) (by decide) (by decide) hh (by rw [hh]; rfl)) fun σ H Q hq => ?_
  obtain ⟨L, m, h, env, rh, re, kk⟩ := hq
  refine ⟨L, m, h, env, rh, re, okF.bind rh kk fun m1 H1 x h1 u g1 rh1 rx k1 => ?_⟩
  unfold srtR at k1
  split at k1
  · rename_i l hl
    split at k1
    · rename_i l2 hl2
      exact ⟨L, m1, h1, x, u, l, l2, rfl, rfl, rh1, rx, hl, hl2, k1⟩
    · exact k1.elim
  · exact k1.elim
def plainBase : Expr → Bool
  | .Call (.Name id _) [] [] _ => !(id == ("super" : Str))
  | _ => true
theorem base_plain {o : Expr} {a : Str} {env : PySem.Env} {whole : Sem Value} (h : plainBase o = true) : attributeBase o a env whole = whole := by
  unfold attributeBase
  split
  · rename_i id p pos
    have hs : (id != ("super" : Str)) = true := by
      have h : (!(id == ("super" : Str))) = true := h
      exact h
    rw [hs]
    rfl
  · rfl
def mthNm : Mth → String
  | .append => "append"
  | .extend => "extend"
  | .pop0 => "pop"
  | .pop1 => "pop"
  | .bitlen => "bit_length"
theorem ref_list {L m : List Addr} {H : Hp} {h : Hh} {n : Nat} {xs : List Vl} {u : V} {K : PySem.W.Frag} (rh : RepH Γ L m h H) (r : RepV Γ L m H (.ref n) u) (e : h[n]? = some (.lst xs)) : tyV K "list" u H := by
  obtain ⟨p, rfl, q⟩ := r
  obtain ⟨us, e2, _⟩ := rh.at_ q e
  exact .inl ⟨rfl, us, SqL.of e2⟩
def mthR (t : Mth) (x : Vl) (h : Hh) (f : R (List Vl)) : R Vl := match rcv t h x with
  | true => bnd f fun xs h => mthV t h x xs
  | false => .bad
theorem rcv_list {t : Mth} {h : Hh} {x : Vl} (ht : t ≠ .bitlen) (e : rcv t h x = true) : ∃ n l, x = .ref n ∧ h[n]? = some (.lst l) := by
  unfold rcv at e
  split at e
  · exact absurd rfl ht
  · split at e
    · split at e
      · rename_i n _ l hl
        exact ⟨_, _, rfl, hl⟩
      · cases e
    · cases e
theorem okG.mth {t : Mth} {L m : List Addr} {H : Hp} {σ : L2.St} {h : Hh} {x : Vl} {xs : List Vl} {u : V} {us : List V} {Q : VK} (rh : RepH Γ L m h H) (rx : RepV Γ L m H x u) (rxs : RepL Γ L m H xs us) (k : okG Γ W L m H σ (fun m' H' => RepV Γ L m' H') (mthV t h x xs) Q)
    (hx : ∀ c p h1, mthV t h x xs ≠ .exc c p h1) : rM Γ t u us H Q := by
  cases e : mthV t h x xs with
  | ok v h1 =>
    rw [e] at k
    exact ⟨L, m, h, x, xs, v, h1, rh, rx, rxs, e, k⟩
  | exc c p h1 => exact absurd e (hx c p h1)
  | bad =>
    rw [e] at k
    exact k.elim
theorem mthV_noexc (t : Mth) (h : Hh) (x : Vl) (xs : List Vl) : ∀ c p h1, mthV t h x xs ≠ .exc c p h1 := by
  intro c p h1 e
  cases t <;> simp only [mthV, appendV, extendV, popV, popAtV, bitsV] at e <;> (repeat' split at e) <;> cases e
theorem s_mth1 {t : Mth} {id : String} {o : Expr} {eo : Env → Hh → R Vl} {apos : Pos} (ht : t ≠ .bitlen) (C : Cn X Γ W) (slot : Slot "list" (Str.ofString (mthNm t)) id) (hty : typeOf (.builtin id) = pure (.type "method_descriptor")) (hm : MtR X id (rM Γ t)) (ho : PE X o (tE Γ W eo)) (ha : PA X [e] (tL Γ W el))
    (hb : plainBase o = true) (hl : (apos.endLine == pos.line) = true) (hst : isStar e = false) : PE X (.Call (.Attribute o (mthNm t) apos) [e] [] pos) (tE Γ W fun env h => bnd (eo env h) fun x h => mthR t x h (el env h)) := by
  have hs : starEach [e] X.env = [(false, eval e X.env)] := star_cons hst
  refine pe_imp (pe_bm PySem.F.plainAttrs_list slot hty hm ho ha (base_plain hb) (by rw [hs]; rfl) hl hs rfl) fun σ H Q hq => ?_
  obtain ⟨L, m, h, env, rh, re, kk⟩ := hq
  refine ⟨L, m, h, env, rh, re, kk.bind fun m1 H1 x h1 u g1 rh1 rx k1 => ?_⟩
  unfold mthR at k1
  split at k1
  · rename_i hr
    obtain ⟨n, l, rfl, hn⟩ := rcv_list ht hr
    refine ⟨ref_list rh1 rx hn, L, m1, h1, env, rh1, re.grow g1, k1.bind fun m2 H2 xs h2 us g2 rh2 rxs k2 => ?_⟩
    exact okG.mth rh2 (rx.grow g2) rxs k2 (mthV_noexc _ _ _ _)
  · exact k1.elim
theorem s_mth0 {t : Mth} {id : String} {o : Expr} {eo : Env → Hh → R Vl} {apos : Pos} (ht : t ≠ .bitlen) (C : Cn X Γ W) (slot : Slot "list" (Str.ofString (mthNm t)) id) (hty : typeOf (.builtin id) = pure (.type "method_descriptor")) (hm : MtR X id (rM Γ t)) (ho : PE X o (tE Γ W eo))
    (hb : plainBase o = true) (hl : (apos.endLine == pos.line) = true) : PE X (.Call (.Attribute o (mthNm t) apos) [] [] pos) (tE Γ W fun env h => bnd (eo env h) fun x h => mthR t x h (.ok [] h)) := by
  refine pe_imp (pe_bm0 PySem.F.plainAttrs_list slot hty hm ho (base_plain hb) hl) fun σ H Q hq => ?_
  obtain ⟨L, m, h, env, rh, re, kk⟩ := hq
  refine ⟨L, m, h, env, rh, re, kk.bind fun m1 H1 x h1 u g1 rh1 rx k1 => ?_⟩
  unfold mthR at k1
  split at k1
  · rename_i hr
    obtain ⟨n, l, rfl, hn⟩ := rcv_list ht hr
    refine ⟨ref_list rh1 rx hn, ?_⟩
    exact okG.mth (xs := []) (us := []) rh1 rx trivial k1 (mthV_noexc _ _ _ _)
  · exact k1.elim
theorem s_bits {o : Expr} {eo : Env → Hh → R Vl} {apos : Pos} (ho : PE X o (tE Γ W eo)) (hb : plainBase o = true) (hl : (apos.endLine == pos.line) = true) :
    PE X (.Call (.Attribute o "bit_length" apos) [] [] pos) (tE Γ W fun env h => bnd (eo env h) fun x h => mthR .bitlen x h (.ok [] h)) := by
  refine pe_imp (pe_bits ho (base_plain hb) hl) fun σ H Q hq => ?_
  obtain ⟨L, m, h, env, rh, re, kk⟩ := hq
  refine ⟨L, m, h, env, rh, re, kk.bind fun m1 H1 x h1 u g1 rh1 rx k1 => ?_⟩
  replace k1 : okG Γ W L m1 H1 σ (fun m' H' => RepV Γ L m' H') (bitsV h1 x) Q := k1
  unfold bitsV at k1
  split at k1
  · rename_i i
    refine ⟨i, rx, ?_⟩
    have e : (Builtin.Int.intBits i : Nat) = if i = 0 then 0 else i.natAbs.log2 + 1 := by
      unfold Builtin.Int.intBits
      by_cases h : i = 0
      · rw [if_pos h, if_pos (by rw [h]; rfl)]
      · rw [if_neg h, if_neg (by simpa using h)]
    rw [e]
    refine k1.now rh1 ?_
    show V.int _ = V.int _
    congr 1
    split <;> rfl
  · exact k1.elim
theorem s_mth (C : Cn X Γ W) {o : Expr} {eo : Env → Hh → R Vl} {apos : Pos} {t : Mth} (ht : t = .append ∨ t = .extend ∨ t = .pop1) (ho : PE X o (tE Γ W eo)) (ha : PA X [e] (tL Γ W el)) (hb : plainBase o = true) (hl : (apos.endLine == pos.line) = true) (hst : isStar e = false) :
    PE X (.Call (.Attribute o (mthNm t) apos) [e] [] pos) (tE Γ W fun env h => bnd (eo env h) fun x h => mthR t x h (el env h)) := by
  rcases ht with rfl | rfl | rfl
  · exact s_mth1 (t := .append) (by simp) C PySem.F.slot_list_append PySem.F.type_list_append mb_append ho ha hb hl hst
  · exact s_mth1 (t := .extend) (by simp) C PySem.F.slot_list_extend PySem.F.type_list_extend mb_extend ho ha hb hl hst
  · exact s_mth1 (t := .pop1) (by simp) C PySem.F.slot_list_pop PySem.F.type_list_pop mb_pop1 ho ha hb hl hst
theorem s_pop (C : Cn X Γ W) {o : Expr} {eo : Env → Hh → R Vl} {apos : Pos} (ho : PE X o (tE Γ W eo)) (hb : plainBase o = true) (hl : (apos.endLine == pos.line) = true) :
    PE X (.Call (.Attribute o "pop" apos) [] [] pos) (tE Γ W fun env h => bnd (eo env h) fun x h => mthR .pop0 x h (.ok [] h)) :=
  s_mth0 (t := .pop0) (by simp) C PySem.F.slot_list_pop PySem.F.type_list_pop mb_pop0 ho hb hl
end
end Mi
set_option Elab.async false
set_option linter.all false
set_option maxRecDepth 100000
set_option maxHeartbeats 4000000
namespace EnT
open PySem PySem.Spec PyProof.Rows L2
theorem new_enum {v : Value} {o : Obj} {P : Heap → Prop} (B : Begins v o P) :
    Meets (Builtin.«enumerate.__new__» ⟨[.type "enumerate", v], []⟩) (fun _ R s => P s.heap ∧
      R (.ok (.ret (.ref (s.heap.push o).objs.size))) { s with heap := (s.heap.push o).push { cls := .type "enumerate", data := .fields #[.none, .bool false, .ref s.heap.objs.size, rawInt 0, .none, .none] } }) :=
  .of_wp fun prog w A R s h => by
    obtain ⟨hp, gg, dd, tt, oo⟩ := s
    obtain ⟨hP, h⟩ := h
    have hsub := sub_enumerate
    have goes : ∀ {A' : Around} {E Q : Value → Shared → Prop}, Q (.ref hp.objs.size) ⟨hp.push o, gg, dd, tt, oo⟩ → wpAny (model prog w) A' (pyIter v) Q E ⟨hp, gg, dd, tt, oo⟩ := fun q => B.iter prog w _ _ ⟨hp, gg, dd, tt, oo⟩ _ hP q
    wp_walk using goes
    refine wpAny_stack_any fun st => wpAny_pure ?_
    split
    · rename_i c _ _ _ _ _
      cases (c == Value.type "enumerate") <;> (wp_walk using goes; exact ⟨_, rfl, h⟩)
    · wp_walk using goes
      exact ⟨_, rfl, h⟩
section
variable {prog : Program} {w : World} {A : Around} {E : Value → Shared → Prop} {s : Shared}
theorem call_enum {v : Value} {o : Obj} {P : Heap → Prop} {Q : Value → Shared → Prop} (B : Begins v o P) (hP : P s.heap)
    (h : ∀ h', IsEnum h' (s.heap.objs.size + 1) s.heap.objs.size 0 .none → h'.get? s.heap.objs.size = some o → h'.objs.size = s.heap.objs.size + 2 → (∀ b o, s.heap.get? b = some o → h'.get? b = some o) → Q (.ref (s.heap.objs.size + 1)) { s with heap := h' }) :
    wpAny (model prog w) A (call (.type "enumerate") [v]) Q E s := by
  refine callType_new F.called_enumerate (by decide) (F.typeCall_enumerate_1 _) (F.newCall_enumerate_1 _) (fun obj => F.args_object_init_2 obj _) F.entry_enumerate_new (new_enum B) ⟨hP, ?_⟩
  have sz : (s.heap.push o).objs.size = s.heap.objs.size + 1 := Heap.size_push ..
  show _ ∧ _
  rw [sz]
  have he := Heap.get?_push_size (s.heap.push o) (o := { cls := .type "enumerate", data := .fields #[.none, .bool false, .ref s.heap.objs.size, rawInt 0, .none, .none] }) rfl
  rw [sz] at he
  exact ⟨⟨_, he, rfl⟩, h _ he (Heap.get?_push_of_some _ (Heap.get?_push_size _ B.free)) (by rw [Heap.size_push, sz]) fun b o x => Heap.get?_push_of_some _ (Heap.get?_push_of_some _ x)⟩
end
def Iet (K : PySem.W.Frag) (a : Addr) : It :=
  ⟨fun i H => ∃ (xs : List V) (x : V), SqT K H a xs ∧ xs[i]? = some x, fun i H v H' => ∃ T x, v = .ref T ∧ H T = none ∧ H' = upd H T (.tup [.int (i : Nat), x]) ∧ ∀ xs, SqT K H a xs → xs[i]? = some x, fun i H => ∃ xs : List V, SqT K H a xs ∧ xs.length ≤ i⟩
theorem turn_et {P : Program} {w : World} {K : PySem.W.Frag} {elts : List Expr} {kk : Nat} {tpos : Pos} (a e it : Addr) :
    Turn P w K (.Tuple elts kk tpos) (Iet K a) [e, it] e (fun i h => (∃ old, IsEnum h e it ((i : Nat) : Int) old) ∧ h.IsTupleIter it a i ∧ e ≠ it) where
  mem := List.mem_cons_self
  obj := fun i h st b hb => by
    obtain ⟨⟨old, he⟩, ⟨o, ho, hc, hd⟩, _⟩ := st
    have eb : b = e ∨ b = it := by simpa using hb
    rcases eb with rfl | rfl
    · exact ⟨_, he, fun v q => nomatch q⟩
    · exact ⟨o, ho, fun v q => by rw [hd] at q; cases q⟩
  keep := fun i h h' st k => let ⟨⟨old, he⟩, hi, hne⟩ := st; ⟨⟨old, k e List.mem_cons_self _ he⟩, hi.at fun o q => k it (List.mem_cons_of_mem _ List.mem_cons_self) o q, hne⟩
  item := by
    intro X hP hw hK hc i pins s σ H E I hf st hg
    subst hP hw hK
    obtain ⟨⟨old, he⟩, hit, hne⟩ := st
    obtain ⟨xs, x, hq, hx⟩ := hg
    obtain ⟨its, rv, p, hz⟩ := I.tuple hq
    obtain ⟨u, hu, ru⟩ := rv.get hx
    have p : s.heap.IsTuple a its.toArray := p
    have hel : e < s.heap.objs.size := Heap.lt_size he
    have hil : it < s.heap.objs.size := by obtain ⟨_, q, _⟩ := hit; exact Heap.lt_size q
    have nai : a ≠ it := fun z => by
      obtain ⟨o, ho, hc', _⟩ := hit
      obtain ⟨o2, ho2, hc2, _⟩ := p
      rw [z, ho] at ho2
      cases ho2
      rw [hc'] at hc2
      injection hc2 with hc2
      exact absurd hc2 (by decide)
    have nea : e ∉ [it, a] := fun z => by
      rcases List.mem_cons.mp z with z | z
      · exact hne z
      · obtain ⟨o2, ho2, hc2, _⟩ := p
        rw [← List.mem_singleton.mp z, he] at ho2
        cases ho2
        injection hc2 with hc2
        exact absurd hc2 (by decide)
    have Dr := Draws.tuple (prog := X.prog) (w := X.w) (A := X.A.in1) (I.ok.hd hc) it a nai its.toArray
    have hlt : i < its.toArray.size := by
      have := (List.getElem?_eq_some_iff.mp hu).1
      simpa using this
    refine wpAny_pyNext_enum_itemD Dr he ⟨hit, p⟩ hlt hne nea fun y h' tk hy ho st' hT hsz hk => ?_
    have ey : y = u := by
      rw [List.getElem?_toArray, hu] at hy
      exact (Option.some.inj hy).symm
    subst ey
    refine ⟨_, rfl, wpAny_letOwnedTupleGo_enum (s := { s with heap := h', toks := tk + 1 }) ho fun h'' he' sb => ?_⟩
    have hT2 : h''.get? s.heap.objs.size = some { cls := .type "tuple", data := .seq #[.int i tk, y] } := (sb.2 _ (Nat.ne_of_gt hel)).trans hT
    have new : ObjOk X.prog X.w (upd H s.heap.objs.size (.tup [.int (i : Nat), x])) h'' s.heap.objs.size (.tup [.int (i : Nat), x]) := ⟨by show 2 ≤ sizeLine; decide, [.int i tk, y], .cons ⟨_, rfl⟩ (.cons ru .nil), ⟨_, hT2, rfl, _, rfl⟩⟩
    have J : Inv X pins σ (upd H s.heap.objs.size (.tup [.int (i : Nat), x])) { s with heap := h'', toks := tk + 1 } :=
      I.turnedNew (ch := [e, it]) (fun b ob hb q => (sb.2 b (fun z => hb (by simp [z]))).trans (hk b ob (fun z => hb (by simp [z])) (fun z => hb (by simp [z])) q)) hf (Nat.le_refl _) new
    refine ⟨.ref s.heap.objs.size, _, J, rfl, ⟨_, x, rfl, I.hok.fresh (Nat.le_refl _), rfl, fun ys hy => by rw [I.tuple_inj hy hq]; exact hx⟩, ⟨⟨y, ?_⟩, st'.1.at fun o q => (sb.2 it (Ne.symm hne)).trans q, hne⟩, fun b hb => ?_⟩
    · have e1 : ((i + 1 : Nat) : Int) = (i : Int) + 1 := by omega
      rw [e1]
      exact he'
    · have lb : b < s.heap.objs.size := by
        have eb : b = e ∨ b = it := by simpa using hb
        rcases eb with z | z <;> rw [z]
        · exact hel
        · exact hil
      rw [upd_ne (Nat.ne_of_lt lb)]
      exact (hf b hb).1
  done := by
    intro X hP hw hK hc i pins s σ H E I hf st hg
    subst hP hw hK
    obtain ⟨⟨old, he⟩, hit, hne⟩ := st
    obtain ⟨xs, hq, hx⟩ := hg
    obtain ⟨its, rv, p, hz⟩ := I.tuple hq
    have p : s.heap.IsTuple a its.toArray := p
    have nai : a ≠ it := fun z => by
      obtain ⟨o, ho, hc', _⟩ := hit
      obtain ⟨o2, ho2, hc2, _⟩ := p
      rw [z, ho] at ho2
      cases ho2
      rw [hc'] at hc2
      injection hc2 with hc2
      exact absurd hc2 (by decide)
    obtain ⟨f0, f1, f2, f3, f4, f5⟩ := hf it (by simp)
    have hl := rv.length
    have Dr : Draws X.prog X.w X.A.in1 it [it, a] i (fun _ _ => True) (fun j h => j = i ∧ h.IsTupleIter it a i ∧ h.IsTuple a its.toArray) :=
      { live := fun _ _ st => let ⟨o, ho, _⟩ := st.2.1; ⟨o, ho⟩
        frame := fun _ _ _ st hk => ⟨st.1, st.2.1.at fun o e => hk it (by simp) o e, st.2.2.at fun o e => hk a (by simp) o e⟩
        item := fun j s' Q' E' hj st' hQ => absurd st'.1 (Nat.ne_of_lt hj)
        done := fun s' Q' E' st' hE => wpAny_nextOf_tuple_end (I.ok.hd hc) st'.2.1 st'.2.2 (by simp; omega) hE }
    exact wpAny_pyNext_enum_endD Dr he ⟨rfl, hit, p⟩ fun h' eb => ⟨rfl, I.turned (t' := s.toks) (fun b o hb q => eb b o hb q) f0 f1 f3 f4 f5⟩
  self := fun A i s Q E st h => let ⟨⟨_, he⟩, _⟩ := st; wpAny_pyIter_enum he h
def iEnA (K : PySem.W.Frag) (ta : TA) : TI := fun σ H R => ta σ H fun vs H1 => ∃ a xs, vs = [.ref a] ∧ ((SqL K H1 a xs ∧ R (Ite K a) H1) ∨ (SqT K H1 a xs ∧ R (Iet K a) H1))
theorem pi_enA {X : Cx} {e : Expr} {ta : TA} {p pos tpos : Pos} {elts : List Expr} {kk : Nat} (hg : Gl X "enumerate") (hm : X.mg "enumerate" = none) (ha : PA X [e] ta) (hs : starEach [e] X.env = [(false, eval e X.env)] := by rfl) :
    PI X (.Tuple elts kk tpos) (.Call (.Name "enumerate" p) [e] [] pos) (iEnA X.K ta) := by
  refine ⟨fun pins s σ H R I h => ?_⟩
  refine Call_ (ld_blt I hg hm boot_enumerate (PyProof.Rows.callWith_type1 (thn (ha.run pos pins s σ H _ I h) fun us s1 ⟨vs, H1, I1, r1, q1⟩ => ?_) hs rfl))
  obtain ⟨a, xs, rfl, hq⟩ := q1
  cases r1 with
  | cons r rr =>
    cases rr
    cases r
    have low : ∀ b, b ∈ [s1.heap.objs.size + 1, s1.heap.objs.size] → FpOk X pins H1 b := fun b hb => by
      have eb : b = s1.heap.objs.size + 1 ∨ b = s1.heap.objs.size := by simpa using hb
      have hle : s1.heap.objs.size ≤ b := by
        rcases eb with z | z <;> rw [z]
        · exact Nat.le_add_right _ _
        · exact Nat.le_refl _
      exact I1.fpOk hle (I1.hok.fresh hle)
    rcases hq with ⟨hq, q⟩ | ⟨hq, q⟩
    · obtain ⟨its, rv, p', hz⟩ := I1.list hq
      refine call_enumerate_list p'.isList fun h' he hit hsz hk => wpAny_pyIter_enum he ?_
      have J : Inv X pins σ H1 { s1 with heap := h' } := I1.kept (t' := s1.toks) hk
      exact ⟨s1.heap.objs.size + 1, _, _, _, H1, rfl, J, turn_enum a (s1.heap.objs.size + 1) s1.heap.objs.size, ⟨⟨.none, he⟩, hit, Nat.succ_ne_self _⟩, low, q⟩
    · obtain ⟨its, rv, p', hz⟩ := I1.tuple hq
      refine call_enum (begins_tuple a its.toArray) p' fun h' he hit hsz hk => wpAny_pyIter_enum he ?_
      have J : Inv X pins σ H1 { s1 with heap := h' } := I1.kept (t' := s1.toks) hk
      exact ⟨s1.heap.objs.size + 1, _, _, _, H1, rfl, J, turn_et a (s1.heap.objs.size + 1) s1.heap.objs.size, ⟨⟨.none, he⟩, ⟨_, hit, rfl, rfl⟩, Nat.succ_ne_self _⟩, low, q⟩
theorem walk_enT {K : PySem.W.Frag} {a : Addr} {xs : List V} : Walk (Iet K a) xs.length (fun H => SqT K H a xs) (YPair (fun i => some (.int (i : Nat))) (fun i => xs[i]?)) := by
  refine ⟨fun i _ hi q => ⟨xs, xs[i], q, by simp [hi]⟩, fun _ q => ⟨xs, q, Nat.le_refl _⟩, fun i H v H' _ q y => ?_⟩
  obtain ⟨T, x, h1, h2, h3, h4⟩ := y
  exact ⟨T, .int (i : Nat), x, h1, h2, h3, rfl, h4 xs q⟩
end EnT
set_option Elab.async false
set_option linter.all false
set_option maxRecDepth 100000
set_option maxHeartbeats 4000000
namespace ZpG
open PySem PySem.Spec PyProof.Rows L2
def SqK (k : Bool) (K : PySem.W.Frag) (H : Hp) (a : Addr) (xs : List V) : Prop := match k with
  | true => SqT K H a xs
  | false => SqL K H a xs
def IsK (k : Bool) (h : Heap) (a : Addr) (its : Array Value) : Prop := match k with
  | true => h.IsTuple a its
  | false => h.IsList a its
def IkK (k : Bool) (h : Heap) (it a : Addr) (i : Nat) : Prop := match k with
  | true => h.IsTupleIter it a i
  | false => h.IsListIter it a i
section
variable {X : Cx} {pins : List (Addr × Obj)} {σ : L2.St} {H : Hp} {s : Shared} {k : Bool} {a it : Addr} {xs ys : List V} {h h' : Heap} {i : Nat}
theorem sqk_is (I : Inv X pins σ H s) (q : SqK k X.K H a xs) : ∃ its : List Value, Vals xs its ∧ IsK k s.heap a its.toArray := by
  cases k with
  | true =>
    obtain ⟨its, r, p, _⟩ := I.tuple q
    exact ⟨its, r, p⟩
  | false =>
    obtain ⟨its, r, p, _⟩ := I.list q
    exact ⟨its, r, p.isList⟩
theorem sqk_inj (I : Inv X pins σ H s) (p : SqK k X.K H a xs) (q : SqK k X.K H a ys) : xs = ys := by
  cases k with
  | true => exact I.tuple_inj p q
  | false => exact I.list_inj p q
theorem isk_lt {its : Array Value} (p : IsK k s.heap a its) : a < s.heap.objs.size := by
  cases k with
  | true =>
    obtain ⟨o, e, _⟩ := p
    exact Heap.lt_size e
  | false =>
    obtain ⟨o, e, _⟩ := p
    exact Heap.lt_size e
theorem ikk_obj (p : IkK k h it a i) : ∃ o, h.get? it = some o ∧ ∀ v, o.data ≠ .cell v := by
  cases k with
  | true =>
    obtain ⟨o, e, _, d⟩ := p
    exact ⟨o, e, fun v q => by rw [d] at q; cases q⟩
  | false =>
    obtain ⟨o, e, _, d⟩ := p
    exact ⟨o, e, fun v q => by rw [d] at q; cases q⟩
theorem ikk_at (p : IkK k h it a i) (e : ∀ o, h.get? it = some o → h'.get? it = some o) : IkK k h' it a i := by
  cases k with
  | true => exact Heap.IsTupleIter.at p e
  | false => exact Heap.IsListIter.at p e
end
section
variable {prog : Program} {w : World} {A : Around}
theorem drK (k : Bool) (hh : A.handled = none) (it l : Addr) (hne : l ≠ it) (items : Array Value) : Draws prog w A it [it, l] items.size (fun i v => items[i]? = some v) (fun i h => IkK k h it l i ∧ IsK k h l items) := by
  cases k with
  | true => exact Draws.tuple hh it l hne items
  | false => exact Draws.list hh it l hne items
theorem drAny (k : Bool) (hh : A.handled = none) (it l : Addr) (hne : l ≠ it) (items : Array Value) (i : Nat) : ∃ n P St, Draws prog w A it [it, l] n P St ∧ (∀ h, IkK k h it l i → IsK k h l items → St i h) ∧ i ≤ n ∧ (items.size ≤ i → i = n) := by
  by_cases hle : items.size ≤ i
  · refine ⟨i, fun _ _ => True, fun j h => j = i ∧ IkK k h it l i ∧ IsK k h l items, ?_, fun h p q => ⟨rfl, p, q⟩, Nat.le_refl _, fun _ => rfl⟩
    have hx : items[i]? = none := by simp; omega
    refine ⟨fun _ _ st => let ⟨o, ho, _⟩ := ikk_obj st.2.1; ⟨o, ho⟩, fun _ h h' st hk => ⟨st.1, ikk_at st.2.1 fun o e => hk it (by simp) o e, ?_⟩, fun j s' Q' E' hj st' hQ => absurd st'.1 (Nat.ne_of_lt hj), fun s' Q' E' st' hE => ?_⟩
    · cases k with
      | true => exact Heap.IsTuple.at st.2.2 fun o e => hk l (by simp) o e
      | false => exact Heap.IsList.at st.2.2 fun o e => hk l (by simp) o e
    · cases k with
      | true => exact wpAny_nextOf_tuple_end hh st'.2.1 st'.2.2 hx hE
      | false => exact wpAny_nextOf_list_end hh st'.2.1 st'.2.2 hx hE
  · exact ⟨_, _, _, drK k hh it l hne items, fun h p q => ⟨p, q⟩, by omega, fun z => absurd z hle⟩
theorem bgK (k : Bool) (l : Addr) (items : Array Value) : ∃ o, Begins (.ref l) o (fun h => IsK k h l items) ∧ ∀ (h' : Heap) (it : Addr), h'.get? it = some o → IkK k h' it l 0 := by
  cases k with
  | true => exact ⟨_, begins_tuple l items, fun h' it e => ⟨_, e, rfl, rfl⟩⟩
  | false => exact ⟨_, begins_list l items, fun h' it e => ⟨_, e, rfl, rfl⟩⟩
end
def ItG (k j : Bool) (K : PySem.W.Frag) (a b : Addr) : It :=
  ⟨fun i H => ∃ (xs ys : List V) (x y : V), SqK k K H a xs ∧ SqK j K H b ys ∧ xs[i]? = some x ∧ ys[i]? = some y,
    fun i H v H' => ∃ T x y, v = .ref T ∧ H T = none ∧ H' = upd H T (.tup [x, y]) ∧ (∀ xs, SqK k K H a xs → xs[i]? = some x) ∧ ∀ ys, SqK j K H b ys → ys[i]? = some y,
    fun i H => ∃ xs ys : List V, SqK k K H a xs ∧ SqK j K H b ys ∧ (xs.length ≤ i ∨ ys.length ≤ i)⟩
theorem sepG {z TI TO i1 i2 a b : Addr} (D : ZipApart z TI TO i1 i2 a b) : ZipSep2 z TI TO i1 i2 [i1, a] [i2, b] where
  TIz := D.TIz
  TOz := D.TOz
  TITO := D.TITO
  TIi1 := D.TIi1
  mem1 := by simp
  zf1 := fun h => by
    rcases List.mem_cons.mp h with e | e
    · exact D.i1z e.symm
    · exact D.l1z (List.mem_singleton.mp e).symm
  Tf1 := fun h => by
    rcases List.mem_cons.mp h with e | e
    · exact D.TOi1 e
    · exact D.l1TO (List.mem_singleton.mp e).symm
  TIi2 := D.TIi2
  mem2 := by simp
  zf2 := fun h => by
    rcases List.mem_cons.mp h with e | e
    · exact D.i2z e.symm
    · exact D.l2z (List.mem_singleton.mp e).symm
  Tf2 := fun h => by
    rcases List.mem_cons.mp h with e | e
    · exact D.TOi2 e
    · exact D.l2TO (List.mem_singleton.mp e).symm
  sep1_2 := fun h => by
    rcases List.mem_cons.mp h with e | e
    · exact D.i12 e
    · exact D.l2i1 (List.mem_singleton.mp e).symm
  sep2_1 := fun h => by
    rcases List.mem_cons.mp h with e | e
    · exact D.i12 e.symm
    · exact D.l1i2 (List.mem_singleton.mp e).symm
theorem turn_g {P : Program} {w : World} {K : PySem.W.Frag} {elts : List Expr} {kk : Nat} {tpos : Pos} {k j : Bool} {a b z TI TO i1 i2 : Addr} (D : ZipApart z TI TO i1 i2 a b) :
    Turn P w K (.Tuple elts kk tpos) (ItG k j K a b) [z, TI, TO, i1, i2] z (fun i h => IsZip h z TI TO .none ∧ IsTupOf2 h TI (.ref i1) (.ref i2) ∧ (∃ x y, IsTupOf2 h TO x y) ∧ IkK k h i1 a i ∧ IkK j h i2 b i) where
  mem := by simp
  obj := fun i h st c hc => by
    obtain ⟨hz, hTI, ⟨x, y, hTO⟩, h1, h2⟩ := st
    have e' : c = z ∨ c = TI ∨ c = TO ∨ c = i1 ∨ c = i2 := by simpa using hc
    rcases e' with q | q | q | q | q <;> rw [q]
    · exact ⟨_, hz, fun v q => nomatch q⟩
    · exact ⟨_, hTI, fun v q => nomatch q⟩
    · exact ⟨_, hTO, fun v q => nomatch q⟩
    · exact ikk_obj h1
    · exact ikk_obj h2
  keep := fun i h h' st e => by
    obtain ⟨hz, hTI, ⟨x, y, hTO⟩, h1, h2⟩ := st
    exact ⟨e z (by simp) _ hz, e TI (by simp) _ hTI, ⟨x, y, e TO (by simp) _ hTO⟩, ikk_at h1 fun o q => e i1 (by simp) o q, ikk_at h2 fun o q => e i2 (by simp) o q⟩
  item := by
    intro X hP hw hK hc i pins s σ H E I hf st hg
    subst hP hw hK
    obtain ⟨hz, hTI, ⟨x0, y0, hTO⟩, h1, h2⟩ := st
    obtain ⟨xs, ys, x, y, hqx, hqy, hx, hy⟩ := hg
    obtain ⟨its, rv, p⟩ := sqk_is I hqx
    obtain ⟨its2, rv2, p2⟩ := sqk_is I hqy
    obtain ⟨u, hu, ru⟩ := rv.get hx
    obtain ⟨u2, hu2, ru2⟩ := rv2.get hy
    have hzl : z < s.heap.objs.size := Heap.lt_size hz
    have D1 := drK (prog := X.prog) (w := X.w) (A := X.A.in1) k (I.ok.hd hc) i1 a D.l1i1 its.toArray
    have D2 := drK (prog := X.prog) (w := X.w) (A := X.A.in1) j (I.ok.hd hc) i2 b D.l2i2 its2.toArray
    have l1 : i < its.toArray.size := by simpa using (List.getElem?_eq_some_iff.mp hu).1
    have l2 : i < its2.toArray.size := by simpa using (List.getElem?_eq_some_iff.mp hu2).1
    refine wpAny_pyNext_zipD2_item (sepG D) D1 D2 hz hTI hTO ⟨h1, p⟩ ⟨h2, p2⟩ l1 l2 fun v1 v2 h' tk e1 e2 z' TO' s1 s2 hT hsz hk => ?_
    have q1 : v1 = u := by
      rw [List.getElem?_toArray, hu] at e1
      exact (Option.some.inj e1).symm
    have q2 : v2 = u2 := by
      rw [List.getElem?_toArray, hu2] at e2
      exact (Option.some.inj e2).symm
    subst q1 q2
    refine ⟨_, rfl, wpAny_letOwnedTupleGo_zip (s := { s with heap := h', toks := tk }) z' fun h'' z'' sb => ?_⟩
    have hT2 : h''.get? s.heap.objs.size = some { cls := .type "tuple", data := .seq #[v1, v2] } := (sb.2 _ (Nat.ne_of_gt hzl)).trans hT
    have new : ObjOk X.prog X.w (upd H s.heap.objs.size (.tup [x, y])) h'' s.heap.objs.size (.tup [x, y]) := ⟨by show 2 ≤ sizeLine; decide, [v1, v2], .cons ru (.cons ru2 .nil), ⟨_, hT2, rfl, _, rfl⟩⟩
    have J : Inv X pins σ (upd H s.heap.objs.size (.tup [x, y])) { s with heap := h'', toks := tk } :=
      I.turnedNew (ch := [z, TI, TO, i1, i2]) (fun c o hb q => (sb.2 c fun e => hb (by simp [e])).trans (hk c o (fun e => hb (by simp [e])) (fun e => hb (by simp [e])) (fun e => hb (by simp [e])) (fun e => hb (by simp [e])) q)) hf (Nat.le_refl _) new
    refine ⟨.ref s.heap.objs.size, _, J, rfl, ⟨_, x, y, rfl, I.hok.fresh (Nat.le_refl _), rfl, fun l hl => by rw [sqk_inj I hl hqx]; exact hx, fun l hl => by rw [sqk_inj I hl hqy]; exact hy⟩, ⟨z'', ?_, ⟨v1, v2, ?_⟩, ?_, ?_⟩, fun c hcm => ?_⟩
    · exact (sb.2 _ D.TIz).trans (hk _ _ D.TIz D.TITO D.TIi1 D.TIi2 hTI)
    · exact (sb.2 _ D.TOz).trans TO'
    · exact ikk_at s1.1 fun o q => (sb.2 _ D.i1z).trans q
    · exact ikk_at s2.1 fun o q => (sb.2 _ D.i2z).trans q
    · have hlt : c < s.heap.objs.size := by
        have e' : c = z ∨ c = TI ∨ c = TO ∨ c = i1 ∨ c = i2 := by simpa using hcm
        rcases e' with q | q | q | q | q <;> rw [q]
        · exact hzl
        · exact Heap.lt_size hTI
        · exact Heap.lt_size hTO
        · exact let ⟨_, e, _⟩ := ikk_obj h1; Heap.lt_size e
        · exact let ⟨_, e, _⟩ := ikk_obj h2; Heap.lt_size e
      rw [upd_ne (Nat.ne_of_lt hlt)]
      exact (hf c hcm).1
  done := by
    intro X hP hw hK hc i pins s σ H E I hf st hg
    subst hP hw hK
    obtain ⟨hz, hTI, ⟨x0, y0, hTO⟩, h1, h2⟩ := st
    obtain ⟨xs, ys, hqx, hqy, hend⟩ := hg
    obtain ⟨its, rv, p⟩ := sqk_is I hqx
    obtain ⟨its2, rv2, p2⟩ := sqk_is I hqy
    have e1 := rv.length
    have e2 := rv2.length
    obtain ⟨n1, P1, S1, D1, f1, g1, k1⟩ := drAny (prog := X.prog) (w := X.w) (A := X.A.in1) k (I.ok.hd hc) i1 a D.l1i1 its.toArray i
    obtain ⟨n2, P2, S2, D2, f2, g2, k2⟩ := drAny (prog := X.prog) (w := X.w) (A := X.A.in1) j (I.ok.hd hc) i2 b D.l2i2 its2.toArray i
    refine wpAny_pyNext_zipD2_end (sepG D) D1 D2 hz hTI hTO (f1 _ h1 p) (f2 _ h2 p2) g1 g2 ?_ fun h' tk hk => ⟨rfl, I.turnedL (ch := [z, TI, TO, i1, i2]) (fun c o hb q =>
      hk c o (fun e => hb (by simp [e])) (fun e => hb (by simp [e])) (fun e => hb (by simp [e])) (fun e => hb (by simp [e])) q) hf⟩
    rcases hend with q | q
    · exact .inl (k1 (by simp; omega))
    · exact .inr (k2 (by simp; omega))
  self := fun A i s Q E st h => wpAny_pyIter_zip st.1 h
def iZipG (K : PySem.W.Frag) (ta : TA) : TI := fun σ H R => ta σ H fun vs H1 => ∃ (a b : Addr) (xs ys : List V) (k j : Bool), vs = [.ref a, .ref b] ∧ SqK k K H1 a xs ∧ SqK j K H1 b ys ∧ R (ItG k j K a b) H1
theorem pi_zipG {X : Cx} {e e2 : Expr} {ta : TA} {p pos tpos : Pos} {elts : List Expr} {kk : Nat} (hg : Gl X "zip") (hm : X.mg "zip" = none) (ha : PA X [e, e2] ta)
    (hs : starEach [e, e2] X.env = (false, eval e X.env) :: starEach [e2] X.env := by rfl) (hpl : (backTo pos (starEach [e2] X.env)).any (·.1) = false := by rfl) :
    PI X (.Tuple elts kk tpos) (.Call (.Name "zip" p) [e, e2] [] pos) (iZipG X.K ta) := by
  refine ⟨fun pins s σ H R I h => ?_⟩
  refine Call_ (ld_blt I hg hm PyProof.Rows.boot_zip (PyProof.Rows.callWith_type1 (thn (ha.run pos pins s σ H _ I h) fun us s1 ⟨vs, H1, I1, r1, q1⟩ => ?_) hs hpl))
  obtain ⟨a, b, xs, ys, k, j, ex, hqx, hqy, q⟩ := q1
  subst ex
  cases r1 with
  | cons r rr =>
    cases rr with
    | cons r' rr =>
      cases rr
      cases r
      cases r'
      have low : ∀ c, c ∈ [s1.heap.objs.size + 4, s1.heap.objs.size + 2, s1.heap.objs.size + 3, s1.heap.objs.size, s1.heap.objs.size + 1] → FpOk X pins H1 c := fun c hcm => by
        have e' : c = s1.heap.objs.size + 4 ∨ c = s1.heap.objs.size + 2 ∨ c = s1.heap.objs.size + 3 ∨ c = s1.heap.objs.size ∨ c = s1.heap.objs.size + 1 := by simpa using hcm
        have hle : s1.heap.objs.size ≤ c := by
          rcases e' with z | z | z | z | z <;> rw [z]
          · exact Nat.le_add_right _ _
          · exact Nat.le_add_right _ _
          · exact Nat.le_add_right _ _
          · exact Nat.le_refl _
          · exact Nat.le_add_right _ _
        exact I1.fpOk hle (I1.hok.fresh hle)
      obtain ⟨its, rv, p1⟩ := sqk_is I1 hqx
      obtain ⟨its2, rv2, p2⟩ := sqk_is I1 hqy
      obtain ⟨o1, B1, z1⟩ := bgK k a its.toArray
      obtain ⟨o2, B2, z2⟩ := bgK j b its2.toArray
      refine zip_begins2 B1 B2 p1 p2 fun h' hz hTI hTO g1 g2 hsz hk => wpAny_pyIter_zip hz ?_
      have J : Inv X pins σ H1 { s1 with heap := h' } := I1.kept (t' := s1.toks) hk
      exact ⟨s1.heap.objs.size + 4, [s1.heap.objs.size + 4, s1.heap.objs.size + 2, s1.heap.objs.size + 3, s1.heap.objs.size, s1.heap.objs.size + 1], _, _, H1, rfl, J, turn_g (PySem.W.ktu_apart s1.heap.objs.size a b (isk_lt p1) (isk_lt p2)), ⟨hz, hTI, ⟨_, _, hTO⟩, z1 _ _ g1, z2 _ _ g2⟩, low, q⟩
theorem walk_zipG {K : PySem.W.Frag} {k j : Bool} {a b : Addr} {xs ys : List V} : Walk (ItG k j K a b) (min xs.length ys.length) (fun H => SqK k K H a xs ∧ SqK j K H b ys) (YPair (fun i => xs[i]?) (fun i => ys[i]?)) := by
  refine ⟨fun i _ hi q => ⟨xs, ys, xs[i]'(by omega), ys[i]'(by omega), q.1, q.2, by simp, by simp⟩, fun _ q => ⟨xs, ys, q.1, q.2, by omega⟩, fun i H v H' _ q y => ?_⟩
  obtain ⟨T, x, z, h1, h2, h3, h4, h5⟩ := y
  exact ⟨T, x, z, h1, h2, h3, h4 xs q.1, h5 ys q.2⟩
end ZpG
set_option Elab.async false
set_option linter.all false
set_option maxRecDepth 100000
set_option maxHeartbeats 4000000
namespace Mi
open PySem PySem.Spec PyProof.Rows L2
def Rs (L : List Addr) (H : Hp) (L1 : List Addr) : Prop := L1 = L ∨ ∃ D, H D = none ∧ L1 = D :: L
theorem RepV.to1 {Γ : Gm} {L L1 m : List Addr} {H : Hp} {v : Vl} {u : V} (r : RepV Γ L m H v u) (e : Rs L H L1) : RepV Γ L1 m H v u := by
  rcases e with rfl | ⟨D, hD, rfl⟩
  · exact r
  · exact r.apart hD
def WkI (Γ : Gm) (L m : List Addr) (H : Hp) (xs : List Vl) (J : It) : Prop := ∃ G Y, Walk J xs.length G Y ∧ (∀ m1 H1, Grow m H m1 H1 → G H1) ∧
  ∀ L1, Rs L H L1 → ∀ (i : Nat) m1 h1 H1 x H1', i < xs.length → Grow m H m1 H1 → RepH Γ L1 m1 h1 H1 → Y i H1 x H1' → Grow m1 H1 m1 H1' ∧ RepH Γ L1 m1 h1 H1' ∧ ∃ vl, xs[i]? = some vl ∧ RepV Γ L1 m1 H1' vl x
def rWk (Γ : Gm) (L m : List Addr) (H : Hp) (w : Wk) (J : It) : Prop :=
  match w with
  | .its xs => WkI Γ L m H xs J
  | .live n => ∃ a, m[n]? = some a ∧ J = Itl Γ.K a
def tW (Γ : Gm) (W : WX) (ev : Env → Hh → R Wk) : TI := fun σ H R => ∃ L m h env, RepH Γ L m h H ∧ RepE Γ L m H env σ ∧ okG Γ W L m H σ (rWk Γ L) (ev env h) R
section
variable {Γ : Gm} {W : WX} {L m : List Addr} {H : Hp} {xs : List Vl} {us : List V} {a : Addr}
theorem wk_at {L1 m1 : List Addr} {h1 : Hh} {H1 H1' : Hp} {x : V} {i : Nat} (r : RepL Γ L m H xs us) (e : Rs L H L1) (hi : i < xs.length) (g : Grow m H m1 H1) (rh : RepH Γ L1 m1 h1 H1) (y : YAt us i H1 x H1') : Grow m1 H1 m1 H1' ∧ RepH Γ L1 m1 h1 H1' ∧ ∃ vl, xs[i]? = some vl ∧ RepV Γ L1 m1 H1' vl x := by
  obtain ⟨rfl, hx⟩ := y
  refine ⟨Grow.refl _ _, rh, xs[i], List.getElem?_eq_getElem hi, ?_⟩
  obtain ⟨u, h1, h2⟩ := r.get (List.getElem?_eq_getElem hi)
  rw [hx] at h1
  cases h1
  exact (h2.to1 e).grow g
theorem sqL_grow {m1 : List Addr} {H1 : Hp} (g : Grow m H m1 H1) (q : SqL Γ.K H a us) (n : a ∉ m) : SqL Γ.K H1 a us := by
  rcases q with (q | ⟨o, q⟩) | q
  · exact .inl (.inl (g.keep _ _ q n))
  · exact .inl (.inr ⟨o, g.frz _ _ _ q⟩)
  · exact .inr q
theorem wk_list (r : RepL Γ L m H xs us) (q : SqL Γ.K H a us) (n : (∃ o, H a = some (.frz o (.lst us))) ∨ a ∉ m) : WkI Γ L m H xs (Itl Γ.K a) := by
  refine ⟨fun H => SqL Γ.K H a us, YAt us, ?_, fun m1 H1 g => ?_, fun L1 e i m1 h1 H1 x H1' hi g rh y => wk_at r e hi g rh y⟩
  · rw [r.length]
    exact walk_list
  · rcases n with ⟨o, n⟩ | n
    · exact .inl (.inr ⟨o, g.frz _ _ _ n⟩)
    · exact sqL_grow g q n
theorem wk_tup (r : RepL Γ L m H xs us) (q : SqT Γ.K H a us) : WkI Γ L m H xs (Itt Γ.K a) := by
  refine ⟨fun H => SqT Γ.K H a us, YAt us, ?_, fun m1 H1 g => sqT_grow g q, fun L1 e i m1 h1 H1 x H1' hi g rh y => wk_at r e hi g rh y⟩
  rw [r.length]
  exact walk_tup
theorem scr_sq (rh : ∃ h, RepH Γ L m h H) (q : ScL Γ.K L m H a us) : SqL Γ.K H a us ∧ ∀ m1 H1, Grow m H m1 H1 → SqL Γ.K H1 a us := by
  rcases q with ⟨o, q⟩ | q
  · exact ⟨.inl (.inr ⟨o, q⟩), fun m1 H1 g => .inl (.inr ⟨o, g.frz _ _ _ q⟩)⟩
  · obtain ⟨o, its, n, q⟩ := q
    exact ⟨.inr ⟨o, its, n, q⟩, fun _ _ _ => .inr ⟨o, its, n, q⟩⟩
theorem wk_scr (rh : ∃ h, RepH Γ L m h H) (r : RepL Γ L m H xs us) (q : ScL Γ.K L m H a us) : WkI Γ L m H xs (Itl Γ.K a) := by
  refine ⟨fun H => SqL Γ.K H a us, YAt us, ?_, fun m1 H1 g => (scr_sq rh q).2 m1 H1 g, fun L1 e i m1 h1 H1 x H1' hi g rh y => wk_at r e hi g rh y⟩
  rw [r.length]
  exact walk_list
theorem rangeL_length : ∀ (n : Nat) (a c : Int), (rangeL n a c).length = n
  | 0, _, _ => rfl
  | n + 1, a, c => by
    show (rangeL n (a + c) c).length + 1 = n + 1
    rw [rangeL_length n]
theorem rangeL_get : ∀ (n : Nat) (a c : Int) (i : Nat), i < n → (rangeL n a c)[i]? = some (.int (a + i * c))
  | 0, _, _, _, h => by omega
  | n + 1, a, c, 0, _ => by
    show some (Vl.int a) = _
    simp
  | n + 1, a, c, i + 1, h => by
    show (rangeL n (a + c) c)[i]? = _
    rw [rangeL_get n (a + c) c i (by omega)]
    have : a + c + (i : Int) * c = a + ((i + 1 : Nat) : Int) * c := by
      rw [show (((i + 1 : Nat) : Int)) = (i : Int) + 1 from rfl, Int.add_mul, Int.one_mul]
      omega
    rw [this]
theorem wk_range {lo : Int} {n : Nat} : WkI Γ L m H (rangeL n lo 1) (Itr lo n) := by
  refine ⟨fun _ => True, YFn fun i => .int (lo + i), ?_, fun _ _ _ => trivial, fun L1 e i m1 h1 H1 x H1' hi g rh y => ?_⟩
  · rw [rangeL_length]
    exact walk_range
  · obtain ⟨rfl, rfl⟩ := y
    rw [rangeL_length] at hi
    refine ⟨Grow.refl _ _, rh, _, rangeL_get n lo 1 i hi, ?_⟩
    rw [Int.mul_one]
    rfl
theorem wk_rangeC {lo c : Int} {n : Nat} : WkI Γ L m H (rangeL n lo c) (Itc lo c n) := by
  refine ⟨fun _ => True, YFn fun i => .int (lo + (i : Nat) * c), ?_, fun _ _ _ => trivial, fun L1 e i m1 h1 H1 x H1' hi g rh y => ?_⟩
  · rw [rangeL_length]
    exact walk_rangeC
  · obtain ⟨rfl, rfl⟩ := y
    rw [rangeL_length] at hi
    exact ⟨Grow.refl _ _, rh, _, rangeL_get n lo c i hi, rfl⟩
theorem wk_pair {L1 m1 : List Addr} {h1 : Hh} {H1 H1' : Hp} {x : V} {i : Nat} {f g' : Nat → Option V} {p q : Vl} (rh : RepH Γ L1 m1 h1 H1) (y : YPair f g' i H1 x H1') (hf : ∀ u, f i = some u → RepV Γ L1 m1 H1 p u) (hg : ∀ u, g' i = some u → RepV Γ L1 m1 H1 q u) :
    Grow m1 H1 m1 H1' ∧ RepH Γ L1 m1 h1 H1' ∧ RepV Γ L1 m1 H1' (.tup [p, q]) x := by
  obtain ⟨T, u, w, rfl, hT, rfl, e1, e2⟩ := y
  have g := Grow.fresh (m := m1) (o := .tup [u, w]) hT
  exact ⟨g, rh.fresh hT, T, [u, w], rfl, SqT.of upd_same, (hf u e1).grow g, (hg w e2).grow g, trivial⟩
theorem wk_enum (r : RepL Γ L m H xs us) (q : ∀ m1 H1, Grow m H m1 H1 → SqL Γ.K H1 a us) : WkI Γ L m H (List.zipWith (fun i v => .tup [i, v]) (rangeL xs.length 0 1) xs) (Ite Γ.K a) := by
  have hl : (List.zipWith (fun i v => Vl.tup [i, v]) (rangeL xs.length 0 1) xs).length = us.length := by
    rw [List.length_zipWith, rangeL_length, Nat.min_self, r.length]
  refine ⟨fun H => SqL Γ.K H a us, YPair (fun i => some (.int (i : Nat))) (fun i => us[i]?), ?_, q, fun L1 e i m1 h1 H1 x H1' hi g rh y => ?_⟩
  · rw [hl]
    exact walk_enum
  · rw [hl] at hi
    have hi' : i < xs.length := by rw [r.length]; exact hi
    obtain ⟨u, e1, e2⟩ := r.get (List.getElem?_eq_getElem hi')
    obtain ⟨a1, a2, a3⟩ := wk_pair (p := .int i) (q := xs[i]) rh y (fun v ev => (Option.some.inj ev).symm) (fun v ev => by
      rw [e1] at ev
      cases ev
      exact (e2.to1 e).grow g)
    refine ⟨a1, a2, _, ?_, a3⟩
    rw [List.getElem?_zipWith, rangeL_get _ _ _ _ hi', List.getElem?_eq_getElem hi']
    simp
theorem wk_enT (r : RepL Γ L m H xs us) (q : SqT Γ.K H a us) : WkI Γ L m H (List.zipWith (fun i v => .tup [i, v]) (rangeL xs.length 0 1) xs) (EnT.Iet Γ.K a) := by
  have hl : (List.zipWith (fun i v => Vl.tup [i, v]) (rangeL xs.length 0 1) xs).length = us.length := by
    rw [List.length_zipWith, rangeL_length, Nat.min_self, r.length]
  refine ⟨fun H => SqT Γ.K H a us, YPair (fun i => some (.int (i : Nat))) (fun i => us[i]?), ?_, fun m1 H1 g => sqT_grow g q, fun L1 e i m1 h1 H1 x H1' hi g rh y => ?_⟩
  · rw [hl]
    exact EnT.walk_enT
  · rw [hl] at hi
    have hi' : i < xs.length := by rw [r.length]; exact hi
    obtain ⟨u, e1, e2⟩ := r.get (List.getElem?_eq_getElem hi')
    obtain ⟨a1, a2, a3⟩ := wk_pair (p := .int i) (q := xs[i]) rh y (fun v ev => (Option.some.inj ev).symm) (fun v ev => by
      rw [e1] at ev
      cases ev
      exact (e2.to1 e).grow g)
    refine ⟨a1, a2, _, ?_, a3⟩
    rw [List.getElem?_zipWith, rangeL_get _ _ _ _ hi', List.getElem?_eq_getElem hi']
    simp
theorem wk_zip0 {ys : List Vl} {ws : List V} {J : It} {G : Hp → Prop} (r : RepL Γ L m H xs us) (r' : RepL Γ L m H ys ws) (w : Walk J (min us.length ws.length) G (YPair (fun i => us[i]?) (fun i => ws[i]?))) (q : ∀ m1 H1, Grow m H m1 H1 → G H1) :
    WkI Γ L m H (List.zipWith (fun u v => .tup [u, v]) xs ys) J := by
  have hl : (List.zipWith (fun u v => Vl.tup [u, v]) xs ys).length = min us.length ws.length := by
    rw [List.length_zipWith, r.length, r'.length]
  refine ⟨G, _, by rw [hl]; exact w, q, fun L1 e i m1 h1 H1 x H1' hi g rh y => ?_⟩
  rw [hl] at hi
  have hi1 : i < xs.length := by rw [r.length]; omega
  have hi2 : i < ys.length := by rw [r'.length]; omega
  obtain ⟨u, e1, e2⟩ := r.get (List.getElem?_eq_getElem hi1)
  obtain ⟨u', e1', e2'⟩ := r'.get (List.getElem?_eq_getElem hi2)
  obtain ⟨a1, a2, a3⟩ := wk_pair (p := xs[i]) (q := ys[i]) rh y (fun v ev => by
    rw [e1] at ev
    cases ev
    exact (e2.to1 e).grow g) (fun v ev => by
    rw [e1'] at ev
    cases ev
    exact (e2'.to1 e).grow g)
  refine ⟨a1, a2, _, ?_, a3⟩
  rw [List.getElem?_zipWith, List.getElem?_eq_getElem hi1, List.getElem?_eq_getElem hi2]
theorem walk_zipT {K : PySem.W.Frag} {a b : Addr} {xs ys : List V} : Walk (RZ.ItzT K a b) (min xs.length ys.length) (fun H => SqT K H a xs ∧ SqT K H b ys) (YPair (fun i => xs[i]?) (fun i => ys[i]?)) := by
  refine ⟨fun i _ hi q => ?_, fun _ q => ⟨xs, ys, q.1, q.2, by omega⟩, fun i H v H' _ q y => ?_⟩
  · have h1 : i < xs.length := by omega
    have h2 : i < ys.length := by omega
    exact ⟨xs, ys, xs[i], ys[i], q.1, q.2, by simp [h1], by simp [h2]⟩
  · obtain ⟨T, x, z, h1, h2, h3, h4, h5⟩ := y
    exact ⟨T, x, z, h1, h2, h3, h4 xs q.1, h5 ys q.2⟩
end
section
variable {X : Cx} {Γ : Gm} {W : WX} {tg e e2 e3 : Expr} {es : List Expr} {p pos : Pos} {ea eb : Env → Hh → R Vl} {el : Env → Hh → R (List Vl)}
theorem pi_seq {te : TE} (he : PE X e te) : PI X tg e (fun σ H R => te σ H fun x H1 => ∃ a, x = .ref a ∧ (((∃ xs, SqL X.K H1 a xs) ∧ R (Itl X.K a) H1) ∨ ((∃ xs, SqT X.K H1 a xs) ∧ R (Itt X.K a) H1))) := by
  refine ⟨fun pins s σ H R I h => ?_⟩
  refine thn (he.run pins s σ H _ I h) fun v s1 ⟨x, H1, I1, r1, q1⟩ => ?_
  obtain ⟨a, e, q⟩ := q1
  subst e
  cases r1
  rcases q with ⟨⟨xs, hq⟩, q⟩ | ⟨⟨xs, hq⟩, q⟩
  · obtain ⟨its, rv, p, hz⟩ := I1.list hq
    refine wpAny_pyIter_list p.isList ?_
    refine ⟨s1.heap.objs.size, [s1.heap.objs.size], _, _, H1, rfl, I1.kept (t' := s1.toks) fun b o e => Heap.get?_push_of_some _ e, turn_list a _, ⟨_, Heap.get?_push_size _ rfl, rfl, rfl⟩, fun b hb => ?_, q⟩
    have e : b = s1.heap.objs.size := by simpa using hb
    subst e
    exact I1.fpOk (Nat.le_refl _) (I1.hok.fresh (Nat.le_refl _))
  · obtain ⟨its, rv, p, hz⟩ := I1.tuple hq
    refine wpAny_pyIter_tuple (show s1.heap.IsTuple a its.toArray from p) ?_
    refine ⟨s1.heap.objs.size, [s1.heap.objs.size], _, _, H1, rfl, I1.kept (t' := s1.toks) fun b o e => Heap.get?_push_of_some _ e, turn_tuple a _, ⟨_, Heap.get?_push_size _ rfl, rfl, rfl⟩, fun b hb => ?_, q⟩
    have e : b = s1.heap.objs.size := by simpa using hb
    subst e
    exact I1.fpOk (Nat.le_refl _) (I1.hok.fresh (Nat.le_refl _))
def overR (x : Vl) (h : Hh) : R Wk := match x with
  | .tup xs => .ok (.its xs) h
  | .lst xs => .ok (.its xs) h
  | .scr xs => .ok (.its xs) h
  | .ref n => match h[n]? with
    | some (.lst _) => .ok (.live n) h
    | _ => .bad
  | _ => .bad
theorem w_over (C : Cn X Γ W) (he : PE X e (tE Γ W ea)) : PI X tg e (tW Γ W fun env h => bnd (ea env h) overR) := by
  refine pi_imp (pi_seq he) fun σ H R hq => ?_
  obtain ⟨L, m, h, env, rh, re, k⟩ := hq
  rw [C.K]
  refine ⟨L, m, h, env, rh, re, k.bind fun m1 H1 x h1 u g1 rh1 rx k1 => ?_⟩
  unfold overR at k1
  split at k1
  · obtain ⟨a, us, e, q, r⟩ := rx
    exact ⟨a, e, .inr ⟨⟨us, q⟩, k1.now rh1 (wk_tup r q)⟩⟩
  · obtain ⟨a, us, e, q, n, _, r⟩ := rx
    exact ⟨a, e, .inl ⟨⟨us, SqL.of q⟩, k1.now rh1 (wk_list r (SqL.of q) (.inr n))⟩⟩
  · obtain ⟨a, us, e, q, r⟩ := rx
    exact ⟨a, e, .inl ⟨⟨us, (scr_sq ⟨_, rh1⟩ q).1⟩, k1.now rh1 (wk_scr ⟨_, rh1⟩ r q)⟩⟩
  · rename_i n
    obtain ⟨a, e, q⟩ := rx
    split at k1
    · rename_i l hl
      obtain ⟨us, e2, rr⟩ := rh1.at_ q hl
      exact ⟨a, e, .inl ⟨⟨us, SqL.of e2⟩, k1.now rh1 ⟨a, q, rfl⟩⟩⟩
    · exact k1.elim
  · exact k1.elim
def r1R (xs : List Vl) (h : Hh) : R Wk := match xs with
  | [.int b] => match decide (b.natAbs < 1000000000) with
    | true => .ok (.its (rangeL b.toNat 0 1)) h
    | false => .bad
  | [.int a, .int b] => match decide (a.natAbs < 1000000000) with
    | true => match decide (b.natAbs < 1000000000) with
      | true => .ok (.its (rangeL (b - a).toNat a 1)) h
      | false => .bad
    | false => .bad
  | [.int a, .int b, .int c] => match rng3 a b c with
    | some n => .ok (.its (rangeL n a c)) h
    | none => .bad
  | _ => .bad
theorem w_range1 (C : Cn X Γ W) (hg : Gl X "range") (hm : Γ.mg "range" = none) (ha : PE X e (tE Γ W ea)) (hst : noStars [e] = true) :
    PI X tg (.Call (.Name "range" p) [e] [] pos) (tW Γ W fun env h => bnd (bnd (ea env h) fun x h => bnd (.ok [] h) fun xs h => .ok (x :: xs) h) r1R) := by
  rw [← C.mg] at hm
  obtain ⟨h1, h2⟩ := noStars_cons hst
  refine pi_imp (pi_range1 hg hm (pa_cons ha pa_nil (star_cons h1)) (star_cons h1)) fun σ H R hq => ?_
  obtain ⟨L, m, h, env, rh, re, k⟩ := hq
  dsimp only at k
  rw [bnd_bnd] at k
  refine ⟨L, m, h, env, rh, re, k.bind fun m1 H1 x h1 u g1 rh1 rx k1 => ?_⟩
  replace k1 : okG Γ W L m1 H1 σ (rWk Γ L) (r1R [x] h1) R := k1
  cases x with
  | int b =>
    cases (show u = .int b from rx)
    replace k1 : okG Γ W L m1 H1 σ (rWk Γ L) (match decide (b.natAbs < 1000000000) with
      | true => .ok (.its (rangeL b.toNat 0 1)) h1
      | false => .bad) R := k1
    split at k1
    · rename_i hb
      have hb := of_decide_eq_true hb
      exact ⟨b, rfl, by omega, by omega, k1.now rh1 wk_range⟩
    · exact k1.elim
  | _ => exact (show False from k1).elim
theorem w_range2 (C : Cn X Γ W) (hg : Gl X "range") (hm : Γ.mg "range" = none) (ha : PE X e (tE Γ W ea)) (hb : PE X e2 (tE Γ W eb)) (hst : noStars [e, e2] = true) :
    PI X tg (.Call (.Name "range" p) [e, e2] [] pos) (tW Γ W fun env h => bnd (bnd (ea env h) fun x h => bnd (bnd (eb env h) fun x h => bnd (.ok [] h) fun xs h => .ok (x :: xs) h) fun xs h => .ok (x :: xs) h) r1R) := by
  rw [← C.mg] at hm
  obtain ⟨h1, h2⟩ := noStars_cons hst
  obtain ⟨h3, h4⟩ := noStars_cons h2
  have hs : starEach [e, e2] X.env = [(false, eval e X.env), (false, eval e2 X.env)] := by rw [star_cons h1, star_cons h3]; rfl
  refine pi_imp (pi_range2 hg hm (pa_cons ha (pa_cons hb pa_nil (star_cons h3)) (star_cons h1)) hs (star_cons h3)) fun σ H R hq => ?_
  obtain ⟨L, m, h, env, rh, re, k⟩ := hq
  dsimp only at k
  rw [bnd_bnd] at k
  refine ⟨L, m, h, env, rh, re, k.bind fun m1 H1 x h1 u g1 rh1 rx k1 => ?_⟩
  rw [bnd_bnd, bnd_bnd] at k1
  refine ⟨L, m1, h1, env, rh1, re.grow g1, k1.bind fun m2 H2 y h2 v g2 rh2 ry k2 => ?_⟩
  replace k2 : okG Γ W L m2 H2 σ (rWk Γ L) (r1R [x, y] h2) R := k2
  unfold r1R at k2
  split at k2
  · rename_i z
    cases z
  · rename_i a b z
    cases z
    cases (show u = .int _ from rx)
    cases (show v = .int _ from ry)
    split at k2
    · rename_i ha
      have ha := of_decide_eq_true ha
      split at k2
      · rename_i hb
        have hb := of_decide_eq_true hb
        exact ⟨_, _, rfl, ⟨by omega, by omega, by omega, by omega⟩, k2.now rh2 wk_range⟩
      · exact k2.elim
    · exact k2.elim
  · rename_i z
    cases z
  · exact k2.elim
theorem rng3_some {a b c : Int} {n : Nat} (e : rng3 a b c = some n) : RgC a b c n := by
  unfold rng3 at e
  split at e
  · rename_i h
    cases Option.some.inj e
    simp only [Bool.and_eq_true, decide_eq_true_eq] at h
    exact ⟨h.1.1, h.1.2, h.2, PyProof.Rows.rangeSize_toNat a b c⟩
  · cases e
theorem w_range3 {ec : Env → Hh → R Vl} (C : Cn X Γ W) (hg : Gl X "range") (hm : Γ.mg "range" = none) (ha : PE X e (tE Γ W ea)) (hb : PE X e2 (tE Γ W eb)) (hc : PE X e3 (tE Γ W ec)) (hst : noStars [e, e2, e3] = true) :
    PI X tg (.Call (.Name "range" p) [e, e2, e3] [] pos) (tW Γ W fun env h => bnd (bnd (ea env h) fun x h => bnd (bnd (eb env h) fun x h => bnd (bnd (ec env h) fun x h => bnd (.ok [] h) fun xs h => .ok (x :: xs) h) fun xs h => .ok (x :: xs) h) fun xs h => .ok (x :: xs) h) r1R) := by
  rw [← C.mg] at hm
  obtain ⟨h1, h2⟩ := noStars_cons hst
  obtain ⟨h3, h4⟩ := noStars_cons h2
  obtain ⟨h5, h6⟩ := noStars_cons h4
  refine pi_imp (pi_range3 hg hm (pa_cons ha (pa_cons hb (pa_cons hc pa_nil (star_cons h5)) (star_cons h3)) (star_cons h1)) (star_cons h1) (noStars_any h2)) fun σ H R hq => ?_
  obtain ⟨L, m, h, env, rh, re, k⟩ := hq
  dsimp only at k
  rw [bnd_bnd] at k
  refine ⟨L, m, h, env, rh, re, k.bind fun m1 H1 x h1 u g1 rh1 rx k1 => ?_⟩
  rw [bnd_bnd, bnd_bnd] at k1
  refine ⟨L, m1, h1, env, rh1, re.grow g1, k1.bind fun m2 H2 y h2 v g2 rh2 ry k2 => ?_⟩
  rw [bnd_bnd, bnd_bnd] at k2
  refine ⟨L, m2, h2, env, rh2, (re.grow g1).grow g2, k2.bind fun m3 H3 z h3 w g3 rh3 rz k3 => ?_⟩
  replace k3 : okG Γ W L m3 H3 σ (rWk Γ L) (r1R [x, y, z] h3) R := k3
  unfold r1R at k3
  split at k3
  · rename_i z
    cases z
  · rename_i z
    cases z
  · rename_i z
    cases z
    cases (show u = .int _ from rx)
    cases (show v = .int _ from ry)
    cases (show w = .int _ from rz)
    split at k3
    · rename_i n hn
      exact ⟨_, _, _, n, rfl, rng3_some hn, k3.now rh3 wk_rangeC⟩
    · exact k3.elim
  · exact k3.elim
def enumR (x : Vl) (h : Hh) : R Wk := match frq x with
  | some (_, xs) => .ok (.its (List.zipWith (fun i v => .tup [i, v]) (rangeL xs.length 0 1) xs)) h
  | none => .bad
theorem frq_list {L m : List Addr} {H : Hp} {h : Hh} {x : Vl} {u : V} {xs : List Vl} (rh : RepH Γ L m h H) (r : RepV Γ L m H x u) (e : frq x = some (false, xs)) : ∃ a us, u = .ref a ∧ SqL Γ.K H a us ∧ RepL Γ L m H xs us ∧ ∀ m1 H1, Grow m H m1 H1 → SqL Γ.K H1 a us := by
  unfold frq at e
  split at e
  · cases e
  · cases Option.some.inj e
    obtain ⟨a, us, e, q, n, _, r⟩ := r
    exact ⟨a, us, e, SqL.of q, r, fun m1 H1 g => sqL_grow g (SqL.of q) n⟩
  · cases Option.some.inj e
    obtain ⟨a, us, e, q, r⟩ := r
    exact ⟨a, us, e, (scr_sq ⟨_, rh⟩ q).1, r, (scr_sq ⟨_, rh⟩ q).2⟩
  · cases e
theorem frq_tup {L m : List Addr} {H : Hp} {x : Vl} {u : V} {xs : List Vl} (r : RepV Γ L m H x u) (e : frq x = some (true, xs)) : ∃ a us, u = .ref a ∧ SqT Γ.K H a us ∧ RepL Γ L m H xs us := by
  unfold frq at e
  split at e
  · cases Option.some.inj e
    obtain ⟨a, us, e, q, r⟩ := r
    exact ⟨a, us, e, q, r⟩
  · cases e
  · cases e
  · cases e
theorem w_enumL {elts : List Expr} {kk : Nat} {tpos : Pos} (C : Cn X Γ W) (hg : Gl X "enumerate") (hm : Γ.mg "enumerate" = none) (ha : PE X e (tE Γ W ea)) (hst : noStars [e] = true) :
    PI X (.Tuple elts kk tpos) (.Call (.Name "enumerate" p) [e] [] pos) (tW Γ W fun env h => bnd (ea env h) enumR) := by
  rw [← C.mg] at hm
  obtain ⟨h1, h2⟩ := noStars_cons hst
  refine pi_imp (EnT.pi_enA hg hm (pa_cons ha pa_nil (star_cons h1)) (star_cons h1)) fun σ H R hq => ?_
  obtain ⟨L, m, h, env, rh, re, k⟩ := hq
  rw [C.K]
  refine ⟨L, m, h, env, rh, re, k.bind fun m1 H1 x h1 u g1 rh1 rx k1 => ?_⟩
  unfold enumR at k1
  split at k1
  · rename_i b xs hx
    cases b with
    | false =>
      obtain ⟨a, us, rfl, q, r, st⟩ := frq_list rh1 rx hx
      exact ⟨a, us, rfl, .inl ⟨q, k1.now rh1 (wk_enum r st)⟩⟩
    | true =>
      obtain ⟨a, us, rfl, q, r⟩ := frq_tup rx hx
      exact ⟨a, us, rfl, .inr ⟨q, k1.now rh1 (wk_enT r q)⟩⟩
  · exact k1.elim
def zipR (x y : Vl) (h : Hh) : R Wk := match frq x with
  | some (_, xs) => match frq y with
    | some (_, ys) => .ok (.its (List.zipWith (fun u v => .tup [u, v]) xs ys)) h
    | none => .bad
  | none => .bad
theorem frq_sq {L m : List Addr} {H : Hp} {h : Hh} {x : Vl} {v : V} {k : Bool} {xs : List Vl} (rh : RepH Γ L m h H) (rx : RepV Γ L m H x v) (e : frq x = some (k, xs)) : ∃ (a : Addr) (us : List V), v = .ref a ∧ ZpG.SqK k Γ.K H a us ∧ RepL Γ L m H xs us ∧ ∀ m1 H1, Grow m H m1 H1 → ZpG.SqK k Γ.K H1 a us := by
  cases k with
  | false =>
    obtain ⟨a, us, e1, q, r, st⟩ := frq_list rh rx e
    exact ⟨a, us, e1, q, r, st⟩
  | true =>
    obtain ⟨a, us, e1, q, r⟩ := frq_tup rx e
    exact ⟨a, us, e1, q, r, fun m1 H1 g => sqT_grow g q⟩
theorem w_zip {elts : List Expr} {kk : Nat} {tpos : Pos} (C : Cn X Γ W) (hg : Gl X "zip") (hm : Γ.mg "zip" = none) (ha : PE X e (tE Γ W ea)) (hb : PE X e2 (tE Γ W eb)) (hst : noStars [e, e2] = true) :
    PI X (.Tuple elts kk tpos) (.Call (.Name "zip" p) [e, e2] [] pos) (tW Γ W fun env h => bnd (ea env h) fun x h => bnd (eb env h) fun y h => zipR x y h) := by
  rw [← C.mg] at hm
  obtain ⟨h1, h2⟩ := noStars_cons hst
  obtain ⟨h3, h4⟩ := noStars_cons h2
  refine pi_imp (ZpG.pi_zipG hg hm (pa_cons ha (pa_cons hb pa_nil (star_cons h3)) (star_cons h1)) (star_cons h1) (noStars_any h2)) fun σ H R hq => ?_
  obtain ⟨L, m, h, env, rh, re, k⟩ := hq
  rw [C.K]
  refine ⟨L, m, h, env, rh, re, k.bind fun m1 H1 x h1 u g1 rh1 rx k1 => ⟨L, m1, h1, env, rh1, re.grow g1, k1.bind fun m2 H2 y h2 v g2 rh2 ry k2 => ?_⟩⟩
  have rx := RepV.grow g2 rx
  unfold zipR at k2
  split at k2
  · rename_i k xs hx
    split at k2
    · rename_i j ys hy
      obtain ⟨a, us, rfl, q, r, st⟩ := frq_sq rh2 rx hx
      obtain ⟨b, ws, rfl, q', r', st'⟩ := frq_sq rh2 ry hy
      exact ⟨a, b, us, ws, k, j, rfl, q, q', k2.now rh2 (wk_zip0 r r' ZpG.walk_zipG fun m1 H1 g => ⟨st m1 H1 g, st' m1 H1 g⟩)⟩
    · exact k2.elim
  · exact k2.elim
end
end Mi
set_option Elab.async false
set_option linter.all false
set_option maxRecDepth 100000
set_option maxHeartbeats 4000000
namespace Mi
open PySem PySem.Spec PyProof.Rows L2
section
variable {Γ : Gm} {L m : List Addr} {H : Hp} {env : Env} {σ : L2.St}
theorem RepE.put {v : Vl} {u : V} (r : RepE Γ L m H env σ) (rv : RepV Γ L m H v u) (i : Nat) : RepE Γ L m H (putE env i v) (σ.set i (some u)) := by
  refine ⟨by unfold putE; rw [List.length_set, List.length_set]; exact r.1, fun j w e => ?_⟩
  unfold putE at e
  by_cases hj : i = j
  · subst hj
    by_cases hl : i < env.length
    · rw [List.getElem?_set_self hl] at e
      cases e
      exact ⟨u, by rw [List.getElem?_set_self (by rw [← r.1]; exact hl)], rv⟩
    · rw [List.getElem?_eq_none (by rw [List.length_set]; omega)] at e
      cases e
  · rw [List.getElem?_set_ne hj] at e
    obtain ⟨w', h1, h2⟩ := r.2 j w e
    exact ⟨w', by rw [List.getElem?_set_ne hj]; exact h1, h2⟩
theorem RepE.wipe (r : RepE Γ L m H env σ) (vs : List Nat) : RepE Γ L m H (wipeE env vs) (L2.wipe σ vs) := by
  induction vs with
  | nil => exact r
  | cons v vs ih =>
    refine ⟨?_, fun j w e => ?_⟩
    · show ((wipeE env vs).set v none).length = ((L2.wipe σ vs).set v none).length
      rw [List.length_set, List.length_set]
      exact ih.1
    · have e : ((wipeE env vs).set v none)[j]? = some (some w) := e
      show ∃ u, ((L2.wipe σ vs).set v none)[j]? = some (some u) ∧ _
      by_cases hj : v = j
      · subst hj
        by_cases hl : v < (wipeE env vs).length
        · rw [List.getElem?_set_self hl] at e
          cases e
        · rw [List.getElem?_eq_none (by rw [List.length_set]; omega)] at e
          cases e
      · rw [List.getElem?_set_ne hj] at e ⊢
        exact ih.2 j w e
theorem RepE.apart {D : Addr} (r : RepE Γ L m H env σ) (hD : H D = none) : RepE Γ (D :: L) m H env σ := ⟨r.1, fun i v e => let ⟨u, h1, h2⟩ := r.2 i v e; ⟨u, h1, h2.apart hD⟩⟩
end
theorem wipe_none {σ : L2.St} {i : Nat} : ∀ {vs : List Nat}, i ∈ vs → (wipe σ vs)[i]? = none ∨ (wipe σ vs)[i]? = some none
  | v :: vs, h => by
    show ((wipe σ vs).set v none)[i]? = none ∨ ((wipe σ vs).set v none)[i]? = some none
    by_cases hv : v = i
    · subst hv
      by_cases hl : v < (wipe σ vs).length
      · exact .inr (List.getElem?_set_self hl)
      · exact .inl (List.getElem?_eq_none (by rw [List.length_set]; omega))
    · rw [List.getElem?_set_ne hv]
      exact wipe_none ((List.mem_cons.mp h).resolve_left fun z => hv z.symm)
theorem wipe_eq {σ τ : L2.St} {vs : List Nat} (hl : σ.length = τ.length) (h : ∀ i, i ∉ vs → σ[i]? = τ[i]?) : wipe σ vs = wipe τ vs := by
  apply List.ext_getElem?
  intro i
  by_cases hi : i ∈ vs
  · have l1 := wipe_length σ vs
    have l2 := wipe_length τ vs
    rcases wipe_none (σ := σ) hi with a | a <;> rcases wipe_none (σ := τ) hi with b | b
    · rw [a, b]
    · have := (List.getElem?_eq_some_iff.mp b).1
      rw [List.getElem?_eq_none_iff] at a
      omega
    · have := (List.getElem?_eq_some_iff.mp a).1
      rw [List.getElem?_eq_none_iff] at b
      omega
    · rw [a, b]
  · rw [wipe_out hi, wipe_out hi]
    exact h i hi
theorem wipe_wipe (σ : L2.St) (vs : List Nat) : wipe (wipe σ vs) vs = wipe σ vs := wipe_eq (wipe_length σ vs) fun i hi => wipe_out hi
def slots : Tg → List Nat
  | .n i => [i]
  | .t is => is
def TgOk (X : Cx) (Γ : Gm) (tg : Tg) (target : Expr) (g : TG) : Prop := PG X target g ∧ ∀ (L m : List Addr) (h : Hh) (H : Hp) (env env' : Env) (σ : L2.St) (x : Vl) (v : V) (Q : L2.St → Hp → Prop), RepH Γ L m h H → RepE Γ L m H env σ → RepV Γ L m H x v → tgV tg x env = some env' →
  (∀ σ', RepE Γ L m H env' σ' → σ'.length = σ.length → (∀ i, i ∉ slots tg → σ'[i]? = σ[i]?) → Q σ' H) → g v σ H Q
section
variable {X : Cx} {Γ : Gm} {W : WX}
theorem tg_name {i : Nat} {x : Str} {pos : Pos} (hN : X.N.Nodup) (hi : X.N[i]? = some x) (hx : Loc X.env.scope x) (hf : X.fn x = true ∨ X.env.scope.names.lookup x = some .local) : TgOk X Γ (.n i) (.Name x pos) (gName i) := by
  refine ⟨pg_name hN hi hx hf, fun L m h H env env' σ v u Q rh re rv e k => ?_⟩
  cases Option.some.inj e
  exact k _ (re.put rv i) (List.length_set ..) fun j hj => List.getElem?_set_ne fun z => hj (List.mem_singleton.mpr z.symm)
def TgsOk (X : Cx) (Γ : Gm) (is : List Nat) (ts : List Expr) (g : TGs) : Prop := PGs X ts g ∧ ∀ (L m : List Addr) (h : Hh) (H : Hp) (env env' : Env) (σ : L2.St) (xs : List Vl) (vs : List V) (Q : L2.St → Hp → Prop), RepH Γ L m h H → RepE Γ L m H env σ → RepL Γ L m H xs vs → putEs env is xs = some env' →
  (∀ σ', RepE Γ L m H env' σ' → σ'.length = σ.length → (∀ i, i ∉ is → σ'[i]? = σ[i]?) → Q σ' H) → g vs σ H Q
theorem tgs_nil : TgsOk X Γ [] [] gNil := by
  refine ⟨pgs_nil, fun L m h H env env' σ xs vs Q rh re rv e k => ?_⟩
  cases xs with
  | nil =>
    cases Option.some.inj e
    exact ⟨rep0 rv, k σ re rfl fun _ _ => rfl⟩
  | cons _ _ => cases e
theorem tgs_cons {i : Nat} {is : List Nat} {t : Expr} {ts : List Expr} {g : TG} {gs : TGs} (h1 : TgOk X Γ (.n i) t g) (h2 : TgsOk X Γ is ts gs) (hs : ∀ v σ H (Q Q' : L2.St → Hp → Prop), g v σ H Q → (∀ σ' H', Q σ' H' → Q' σ' H') → g v σ H Q') (hst : isStar t = false) : TgsOk X Γ (i :: is) (t :: ts) (gCons g gs) := by
  refine ⟨pgs_cons h1.1 h2.1 (by cases t <;> first | rfl | cases hst), fun L m h H env env' σ xs vs Q rh re rv e k => ?_⟩
  cases xs with
  | nil => cases e
  | cons x xs =>
    cases vs with
    | nil => exact rv.elim
    | cons v vs =>
      have e : putEs (putE env i x) is xs = some env' := e
      refine ⟨v, vs, rfl, h1.2 L m h H env _ σ x v _ rh re rv.1 rfl fun σ1 re1 l1 f1 => ?_⟩
      refine h2.2 L m h H _ env' σ1 xs vs Q rh re1 rv.2 e fun σ2 re2 l2 f2 => k σ2 re2 (l2.trans l1) fun j hj => ?_
      rw [f2 j fun z => hj (List.mem_cons_of_mem _ z)]
      exact f1 j fun z => hj (List.mem_cons.mpr (.inl (List.mem_singleton.mp z)))
theorem assign_plain {env : PySem.Env} : ∀ {ts : List Expr}, noStars ts = true → (assignEach ts env).length = ts.length ∧ ∀ p ∈ assignEach ts env, p.1 = false
  | [], _ => ⟨rfl, fun _ h => nomatch h⟩
  | t :: ts, h => by
    obtain ⟨h1, h2⟩ := noStars_cons h
    obtain ⟨a, b⟩ := assign_plain (env := env) h2
    have e : assignEach (t :: ts) env = (false, assign t env) :: assignEach ts env := by cases t <;> first | rfl | cases h1
    rw [e]
    exact ⟨congrArg (· + 1) a, fun p hp => (List.mem_cons.mp hp).elim (fun z => by rw [z]) (b p)⟩
theorem assign_find {env : PySem.Env} {ts : List Expr} (h : noStars ts = true) : (assignEach ts env).findIdx? (·.1) = none := by
  rw [List.findIdx?_eq_none_iff]
  intro p hp
  exact (assign_plain h).2 p hp
theorem putEs_len : ∀ {env env' : Env} {is : List Nat} {xs : List Vl}, putEs env is xs = some env' → xs.length = is.length
  | _, _, [], [], _ => rfl
  | env, _, i :: is, x :: xs, e => congrArg (· + 1) (putEs_len (env := putE env i x) (is := is) (xs := xs) e)
  | _, _, [], _ :: _, e => by cases e
  | _, _, _ :: _, [], e => by cases e
theorem tg_tup {is : List Nat} {ts : List Expr} {gs : TGs} {k : Nat} {pos : Pos} (C : Cn X Γ W) (h : TgsOk X Γ is ts gs) (hl : ts.length = is.length) (hst : noStars ts = true) : TgOk X Γ (.t is) (.Tuple ts k pos) (gTup X.K is.length gs) := by
  refine ⟨pg_tup C.calm h.1 ((assign_plain hst).1.trans hl) (assign_find hst), fun L m h' H env env' σ x v Q rh re rv e kk => ?_⟩
  unfold tgV at e
  dsimp only at e
  split at e
  · rename_i xs
    obtain ⟨a, us, rfl, q, r⟩ := rv
    rw [C.K]
    refine ⟨a, us, rfl, q, ?_, h.2 L m h' H env env' σ xs us Q rh re r e kk⟩
    rw [← r.length]
    exact putEs_len e
  · cases e
theorem Grow.updD {m m1 : List Addr} {H H1 : Hp} {D : Addr} {o : HO} (hD : H D = none) (g : Grow m H m1 H1) : Grow m H m1 (upd H1 D o) :=
  ⟨g.ext, fun a u e n => by rw [upd_ne (ne_of_none e hD)]; exact g.keep a u e n, fun a u e => by rw [upd_ne (ne_of_none e hD)]; exact g.tup a u e, fun a u v e => by rw [upd_ne (ne_of_none e hD)]; exact g.frz a u v e, fun a u e => by rw [upd_ne (ne_of_none e hD)]; exact g.own a u e⟩
theorem RepH.chg {Γ : Gm} {L m : List Addr} {H : Hp} {h : Hh} {D : Addr} {us us' : List V} (r : RepH Γ (D :: L) m h H) (e : H D = some (.lst us)) : RepH Γ (D :: L) m h (upd H D (.lst us')) where
  len := r.len
  nd := r.nd
  ap := r.ap
  ob := fun i a o e1 e2 => by
    have c := Chg.upd (us' := us') e
    have na : a ≠ D := fun z => r.ap a (List.mem_of_getElem? e1) (by rw [z]; exact List.mem_cons_self)
    exact (r.ob i a o e1 e2).map (fun _ _ => RepV.chg c) (fun _ _ => RepL.chg c) (upd_ne na) fun C dx vs s n1 n2 => ⟨slAt_chg c s, n1, n2⟩
  res := fun a ha => by
    by_cases z : a = D
    · exact ⟨us', by rw [z, upd_same]⟩
    · obtain ⟨ws, q⟩ := r.res a ha
      exact ⟨ws, by rw [upd_ne z]; exact q⟩
abbrev W0 : WX := fun _ _ _ _ => False
def CSt (Γ : Gm) (W : WX) (L : List Addr) (D : Addr) (m1 : List Addr) (H1 : Hp) (σ : L2.St) (Q : VK) (K : List Vl → Hh → R (List Vl)) (H' : Hp) : Prop :=
  ∃ m2 h2 acc us, Grow m1 H1 m2 H' ∧ RepH Γ (D :: L) m2 h2 H' ∧ D ∉ m2 ∧ H' D = some (.lst us) ∧ RepL Γ (D :: L) m2 H' acc us ∧ okF Γ W L m1 H1 σ (K acc h2) Q
def stepR (turn : Vl → Hh → R (Option Vl)) (K : List Vl → Hh → R (List Vl)) (x : Vl) (acc : List Vl) (h : Hh) : R (List Vl) := bnd (noX (turn x h)) fun o h1 => match o with
  | some y => if acc.length < line then K (acc ++ [y]) h1 else .bad
  | none => K acc h1
def turnR (tg : Tg) (own : List Nat) (env : Env) (ec : Env → Hh → R Bool) (ee : Env → Hh → R Vl) (x : Vl) (h : Hh) : R (Option Vl) := match tgV tg x (wipeE env own) with
  | some env' => bnd (ec env' h) fun b h => match b with
    | true => bnd (ee env' h) fun y h => .ok (some y) h
    | false => .ok none h
  | none => .bad
theorem comp_step {tg : Tg} {target : Expr} {X' : Cx} {g : TG} {own : List Nat} {env : Env} {ec : Env → Hh → R Bool} {ee : Env → Hh → R Vl} {L m1 m2 : List Addr} {D : Addr} {H1 H' H'' : Hp} {σ : L2.St} {Q : VK} {K : List Vl → Hh → R (List Vl)} {h1 h2 : Hh} {acc : List Vl} {us : List V} {x : V} {vl : Vl} {Nx : Hp → Prop}
    (hg : TgOk X' Γ tg target g) (ho : ∀ i ∈ slots tg, i ∈ own) (hD : H1 D = none) (rh1 : RepH Γ L m1 h1 H1) (re : RepE Γ L m1 H1 env σ) (g1 : Grow m1 H1 m2 H') (nD : D ∉ m2) (eD : H' D = some (.lst us)) (ra : RepL Γ (D :: L) m2 H' acc us) (rh' : RepH Γ (D :: L) m2 h2 H')
    (g2 : Grow m2 H' m2 H'') (rh : RepH Γ (D :: L) m2 h2 H'') (rx : RepV Γ (D :: L) m2 H'' vl x) (k : okF Γ W L m1 H1 σ (stepR (turnR tg own env ec ee) K vl acc h2) Q) (hn : ∀ H3, CSt Γ W L D m1 H1 σ Q K H3 → Nx H3) :
    g x (wipe σ own) H'' fun σ2 H2 => wipe σ2 own = wipe σ own ∧ tB' Γ W0 ec σ2 H2 fun b H3 => if b = true then tE Γ W0 ee σ2 H3 fun y H4 => ∃ acc, H4 D = some (.lst acc) ∧ acc.length < sizeLine ∧ Nx (upd H4 D (.lst (acc ++ [y]))) else Nx H3 := by
  have gw : Grow m1 H1 m2 H'' := g1.tr rh' g2
  have re2 : RepE Γ (D :: L) m2 H'' (wipeE env own) (wipe σ own) := ((re.apart hD).grow gw).wipe own
  unfold stepR turnR at k
  split at k
  · rename_i env' he
    refine hg.2 (D :: L) m2 h2 H'' _ env' (wipe σ own) vl x _ rh re2 rx he fun σ2 re3 l3 f3 => ⟨?_, ?_⟩
    · rw [← wipe_wipe σ own]
      exact wipe_eq l3 fun i hi => f3 i fun z => hi (ho i z)
    · refine ⟨D :: L, m2, h2, env', rh, re3, ?_⟩
      cases hc : ec env' h2 with
      | exc c p h3 =>
        rw [hc] at k
        exact k.elim
      | bad =>
        rw [hc] at k
        exact k.elim
      | ok b h3 =>
        rw [hc] at k
        intro m3 H3 u g3 rh3 e
        cases e
        have keepD : H3 D = some (.lst us) := g3.keep D _ (g2.keep D _ eD nD) nD
        have nD3 : D ∉ m3 := fun z => rh3.ap D z List.mem_cons_self
        have ra3 := (ra.grow' g2).grow' g3
        cases b with
        | false =>
          rw [if_neg Bool.false_ne_true]
          exact hn H3 ⟨m3, h3, acc, us, gw.tr rh g3, rh3, nD3, keepD, ra3, k⟩
        | true =>
          rw [if_pos rfl]
          refine ⟨D :: L, m3, h3, env', rh3, re3.grow g3, ?_⟩
          cases hee : ee env' h3 with
          | exc c p h4 =>
            replace k : okF Γ W L m1 H1 σ (bnd (noX (bnd (ee env' h3) fun y h => .ok (some y) h)) fun o h1 => match o with
              | some y => if acc.length < line then K (acc ++ [y]) h1 else .bad
              | none => K acc h1) Q := k
            rw [hee] at k
            exact k.elim
          | bad =>
            replace k : okF Γ W L m1 H1 σ (bnd (noX (bnd (ee env' h3) fun y h => .ok (some y) h)) fun o h1 => match o with
              | some y => if acc.length < line then K (acc ++ [y]) h1 else .bad
              | none => K acc h1) Q := k
            rw [hee] at k
            exact k.elim
          | ok y h4 =>
            replace k : okF Γ W L m1 H1 σ (bnd (noX (bnd (ee env' h3) fun y h => .ok (some y) h)) fun o h1 => match o with
              | some y => if acc.length < line then K (acc ++ [y]) h1 else .bad
              | none => K acc h1) Q := k
            rw [hee] at k
            replace k : okF Γ W L m1 H1 σ (if acc.length < line then K (acc ++ [y]) h4 else .bad) Q := k
            intro m4 H4 uy g4 rh4 ry
            split at k
            · rename_i hz
              have keep4 : H4 D = some (.lst us) := g4.keep D _ keepD nD3
              have nD4 : D ∉ m4 := fun z => rh4.ap D z List.mem_cons_self
              have c := Chg.upd (us' := us ++ [uy]) keep4
              refine ⟨us, keep4, by rw [← ra.length, ← line_eq]; exact hz, hn _ ⟨m4, h4, acc ++ [y], us ++ [uy], Grow.updD hD ((gw.tr rh g3).tr rh3 g4), rh4.chg keep4, nD4, upd_same, ?_, k⟩⟩
              exact ((ra3.grow' g4).chg c).append ⟨ry.chg c, trivial⟩
            · exact k.elim
  · exact k.elim
theorem comp_te {tg : Tg} {target : Expr} {g : TG} {own : List Nat} {ec : Env → Hh → R Bool} {ee : Env → Hh → R Vl} {ew : Env → Hh → R Wk} (X' : Cx) (hg : TgOk X' Γ tg target g) (ho : ∀ i ∈ slots tg, i ∈ own) {σ : L2.St} {H : Hp} {Q : VK}
    (hq : tF Γ W (fun env h => bnd (ew env h) fun w h => walkC (turnR tg own env ec ee) w h) σ H Q) : tLc (tW Γ W ew) g (tB' Γ W0 ec) (tE Γ W0 ee) own σ H Q := by
  obtain ⟨L, m, h, env, rh, re, k⟩ := hq
  refine ⟨L, m, h, env, rh, re, okF.bind rh k fun m1 H1 w h1 J g1 rh1 rw1 k1 => fun D hD => ?_⟩
  have re1 := re.grow g1
  have out := rh1.out hD
  have start : ∀ {K : List Vl → Hh → R (List Vl)}, okF Γ W L m1 H1 σ (K [] h1) Q → CSt Γ W L D m1 H1 σ Q K (upd H1 D (.lst [])) := fun {K} k => ⟨m1, h1, [], [], Grow.fresh hD, rh1.reserve hD, out.1, upd_same, trivial, k⟩
  have fin : ∀ {K : List Vl → Hh → R (List Vl)} {H' : Hp}, (∀ acc h, K acc h = .ok acc h) → CSt Γ W L D m1 H1 σ Q K H' → Q (.ref D) H' := fun {K H'} e ⟨m2, h2, acc, us, g, rh, nD, eD, ra, k⟩ => by
    rw [e] at k
    exact k m2 H' D us g hD nD out.2 eD ra rh
  cases w with
  | its xs =>
    obtain ⟨G, Y, wk, st, yl⟩ := rw1
    refine lc_it wk (fun i H' => CSt Γ W L D m1 H1 σ Q (fun acc h => compL (turnR tg own env ec ee) (xs.drop i) acc h) H') (start k1) (fun i H' _ z => let ⟨m2, h2, acc, us, g, _⟩ := z; st m2 H' g) (fun i x H' H'' hi z y => ?_) fun H' z => ?_
    · obtain ⟨m2, h2, acc, us, g, rh, nD, eD, ra, k⟩ := z
      obtain ⟨g', rh', vl, ev, rv⟩ := yl (D :: L) (.inr ⟨D, hD, rfl⟩) i m2 h2 H' x H'' hi g rh y
      have ed : xs.drop i = vl :: xs.drop (i + 1) := by
        rw [List.drop_eq_getElem_cons hi]
        rw [List.getElem?_eq_getElem hi] at ev
        rw [Option.some.inj ev]
      rw [ed] at k
      exact comp_step (K := fun acc h => compL (turnR tg own env ec ee) (xs.drop (i + 1)) acc h) hg ho hD rh1 re1 g nD eD ra rh g' rh' rv k fun H3 z => z
    · refine fin (K := fun acc h => compL (turnR tg own env ec ee) (xs.drop xs.length) acc h) (fun acc h => ?_) z
      rw [List.drop_length]
      rfl
  | live n =>
    obtain ⟨a, ea, rfl⟩ := rw1
    have k1 : okF Γ W L m1 H1 σ (compN (turnR tg own env ec ee) n fuelW 0 [] h1) Q := k1
    refine ⟨fun i mm H' => CSt Γ W L D m1 H1 σ Q (fun acc h => compN (turnR tg own env ec ee) n mm i acc h) H', ⟨fuelW, start k1⟩, fun i mm H' z => ?_⟩
    obtain ⟨m2, h2, acc, us, g, rh, nD, eD, ra, k⟩ := z
    cases mm with
    | zero => exact k.elim
    | succ mm =>
      have e2 := g.get ea
      replace k : okF Γ W L m1 H1 σ (match h2[n]? with
        | some (.lst ys) => match ys[i]? with
          | some x => stepR (turnR tg own env ec ee) (fun acc h => compN (turnR tg own env ec ee) n mm (i + 1) acc h) x acc h2
          | none => .ok acc h2
        | _ => .bad) Q := k
      split at k
      · rename_i ys hy
        obtain ⟨ws, e3, rr⟩ := rh.at_ e2 hy
        split at k
        · rename_i x hx
          obtain ⟨u, eu, ru⟩ := rr.get hx
          refine .inr ⟨⟨ws, u, SqL.of e3, eu⟩, _, fun H3 z => ⟨mm, Nat.lt_succ_self _, z⟩, fun v H'' y => ?_⟩
          obtain ⟨rfl, y⟩ := y
          have := y ws (SqL.of e3)
          rw [eu] at this
          cases this
          exact comp_step (K := fun acc h => compN (turnR tg own env ec ee) n mm (i + 1) acc h) hg ho hD rh1 re1 g nD eD ra rh (Grow.refl _ _) rh ru k fun H3 z => z
        · rename_i hx
          refine .inl ⟨⟨ws, SqL.of e3, ?_⟩, k m2 H' D us g hD nD out.2 eD ra rh⟩
          rw [← rr.length]
          exact List.getElem?_eq_none_iff.mp hx
      · exact k.elim
def okS (Γ : Gm) (W : WX) (L m : List Addr) (H : Hp) (r : R Oc) (D : Ends) : Prop :=
  match r with
  | .ok (.nx env) h => ∀ m' H' σ', Grow m H m' H' → RepH Γ L m' h H' → RepE Γ L m' H' env σ' → D.nx σ' H'
  | .ok (.bk env) h => ∀ m' H' σ', Grow m H m' H' → RepH Γ L m' h H' → RepE Γ L m' H' env σ' → D.bk σ' H'
  | .ok (.ct env) h => ∀ m' H' σ', Grow m H m' H' → RepH Γ L m' h H' → RepE Γ L m' H' env σ' → D.ct σ' H'
  | .ok (.rt v) h => ∀ m' H' u, Grow m H m' H' → RepH Γ L m' h H' → RepV Γ L m' H' v u → D.rt u H'
  | .exc c p h => ∀ m' H' d σ', Grow m H m' H' → RepH Γ L m' h H' → RepX Γ L m' H' c p d → W (.ref (Γ.xa c)) d σ' H'
  | .bad => False
def tS (Γ : Gm) (W : WX) (ev : Env → Hh → R Oc) : TS := fun D σ H => ∃ L m h env, RepH Γ L m h H ∧ RepE Γ L m H env σ ∧ okS Γ W L m H (ev env h) D
theorem okS.later {L m m1 : List Addr} {H H1 : Hp} {h1 : Hh} {r : R Oc} {D : Ends} (k : okS Γ W L m H r D) (g : Grow m H m1 H1) (rh : RepH Γ L m1 h1 H1) : okS Γ W L m1 H1 r D := by
  cases r with
  | ok a h => cases a with
    | nx env => exact fun m' H' σ' g' => k m' H' σ' (g.tr rh g')
    | bk env => exact fun m' H' σ' g' => k m' H' σ' (g.tr rh g')
    | ct env => exact fun m' H' σ' g' => k m' H' σ' (g.tr rh g')
    | rt v => exact fun m' H' σ' g' => k m' H' σ' (g.tr rh g')
  | exc c p h => exact fun m' H' d σ' g' => k m' H' d σ' (g.tr rh g')
  | bad => exact k
theorem okS.bind {α β : Type} {rel : List Addr → Hp → α → β → Prop} {L m : List Addr} {H : Hp} {σ : L2.St} {r : R α} {f : α → Hh → R Oc} {D : Ends} {Q' : β → Hp → Prop} (k : okS Γ W L m H (bnd r f) D)
    (st : ∀ m1 H1 a h1 u, Grow m H m1 H1 → RepH Γ L m1 h1 H1 → rel m1 H1 a u → okS Γ W L m1 H1 (f a h1) D → Q' u H1) : okG Γ W L m H σ rel r Q' := by
  cases r with
  | ok a h => exact fun m' H' u g rh ru => st m' H' a h u g rh ru (okS.later k g rh)
  | exc c p h => exact fun m' H' d g rh rx => k m' H' d σ g rh rx
  | bad => exact k
theorem okS.seq {L m : List Addr} {H : Hp} {r : R Oc} {f : Env → Hh → R Oc} {D : Ends} (k : okS Γ W L m H (bndS r f) D) : okS Γ W L m H r { D with nx := fun σ' H' => tS Γ W f D σ' H' } := by
  cases r with
  | ok a h => cases a with
    | nx env => exact fun m' H' σ' g rh re => ⟨L, m', h, env, rh, re, okS.later k g rh⟩
    | bk env => exact k
    | ct env => exact k
    | rt v => exact k
  | exc c p h => exact k
  | bad => exact k
theorem okS.now {L m : List Addr} {H : Hp} {σ : L2.St} {env : Env} {h : Hh} {D : Ends} (k : okS Γ W L m H (.ok (.nx env) h) D) (rh : RepH Γ L m h H) (re : RepE Γ L m H env σ) : D.nx σ H := k m H σ (Grow.refl _ _) rh re
def FSt (Γ : Gm) (W : WX) (L m1 : List Addr) (H1 : Hp) (D : Ends) (K : Env → Hh → R Oc) (σ : L2.St) (H' : Hp) : Prop :=
  ∃ m2 h2 env, Grow m1 H1 m2 H' ∧ RepH Γ L m2 h2 H' ∧ RepE Γ L m2 H' env σ ∧ okS Γ W L m1 H1 (K env h2) D
def stepF (turn : Vl → Env → Hh → R Oc) (K : Env → Hh → R Oc) (x : Vl) (env : Env) (h : Hh) : R Oc := match turn x env h with
  | .ok (.nx env1) h1 => K env1 h1
  | .ok (.ct env1) h1 => K env1 h1
  | .ok (.bk env1) h1 => .ok (.nx env1) h1
  | .ok (.rt v) h1 => .ok (.rt v) h1
  | .exc c p h1 => .exc c p h1
  | .bad => .bad
def turnF (tg : Tg) (eb : Env → Hh → R Oc) (x : Vl) (env : Env) (h : Hh) : R Oc := match tgV tg x env with
  | some env' => eb env' h
  | none => .bad
theorem body_step {L m1 m2 : List Addr} {H1 H' : Hp} {h2 : Hh} {env : Env} {σ : L2.St} {D : Ends} {eb : Env → Hh → R Oc} {K : Env → Hh → R Oc} {Nx : L2.St → Hp → Prop} (g : Grow m1 H1 m2 H') (rh : RepH Γ L m2 h2 H') (re : RepE Γ L m2 H' env σ)
    (k : okS Γ W L m1 H1 (match eb env h2 with
      | .ok (.nx env1) h1 => K env1 h1
      | .ok (.ct env1) h1 => K env1 h1
      | .ok (.bk env1) h1 => .ok (.nx env1) h1
      | .ok (.rt v) h1 => .ok (.rt v) h1
      | .exc c p h1 => .exc c p h1
      | .bad => .bad) D) (hn : ∀ σ' H3, FSt Γ W L m1 H1 D K σ' H3 → Nx σ' H3) : tS Γ W eb { D with nx := Nx, ct := Nx, bk := D.nx } σ H' := by
  refine ⟨L, m2, h2, env, rh, re, ?_⟩
  cases hr : eb env h2 with
  | bad =>
    rw [hr] at k
    exact k
  | exc c p h3 =>
    rw [hr] at k
    exact fun m' H3 d σ' g' rh' => k m' H3 d σ' (g.tr rh g') rh'
  | ok o h3 =>
    rw [hr] at k
    cases o with
    | nx env1 => exact fun m' H3 σ' g' rh' re' => hn σ' H3 ⟨m', h3, env1, g.tr rh g', rh', re', k⟩
    | ct env1 => exact fun m' H3 σ' g' rh' re' => hn σ' H3 ⟨m', h3, env1, g.tr rh g', rh', re', k⟩
    | bk env1 => exact fun m' H3 σ' g' => k m' H3 σ' (g.tr rh g')
    | rt v => exact fun m' H3 u g' => k m' H3 u (g.tr rh g')
theorem s_for {tg : Tg} {target iter : Expr} {g : TG} {body : List Stmt} {pos : Pos} {ew : Env → Hh → R Wk} {eb : Env → Hh → R Oc} (C : Cn X Γ W) (hp : PassesOwn (model X.prog X.w) X.A X.env X.xe) (hi : PI X target iter (tW Γ W ew)) (hg : TgOk X Γ tg target g)
    (hb : PSs X body (tS Γ W eb)) (hs : ∀ x, foldedSetIterable iter X.env x = pure x) : PS X (.For target iter body [] pos) (tS Γ W fun env h => bnd (ew env h) fun w h => walkF (turnF tg eb) w env h) := by
  refine ps_imp (ps_for hp C.calm hi hg.1 hb hs) fun D σ H hq => ?_
  obtain ⟨L, m, h, env, rh, re, k⟩ := hq
  refine ⟨L, m, h, env, rh, re, okS.bind k fun m1 H1 w h1 J g1 rh1 rw1 k1 => ?_⟩
  have re1 := re.grow g1
  cases w with
  | its xs =>
    obtain ⟨G, Y, wk, st, yl⟩ := rw1
    refine for_it wk (fun i σ' H' => FSt Γ W L m1 H1 D (fun env h => forL (turnF tg eb) (xs.drop i) env h) σ' H') ⟨m1, h1, env, Grow.refl _ _, rh1, re1, k1⟩ (fun i σ' H' _ z => let ⟨m2, h2, env2, g, _⟩ := z; st m2 H' g) (fun i x σ' H' H'' hi z y => ?_) fun σ' H' z => ?_
    · obtain ⟨m2, h2, env2, g, rh2, re2, k⟩ := z
      obtain ⟨g', rh', vl, ev, rv⟩ := yl L (.inl rfl) i m2 h2 H' x H'' hi g rh2 y
      have ed : xs.drop i = vl :: xs.drop (i + 1) := by
        rw [List.drop_eq_getElem_cons hi]
        rw [List.getElem?_eq_getElem hi] at ev
        rw [Option.some.inj ev]
      rw [ed] at k
      replace k : okS Γ W L m1 H1 (stepF (turnF tg eb) (fun env h => forL (turnF tg eb) (xs.drop (i + 1)) env h) vl env2 h2) D := k
      unfold stepF turnF at k
      cases ht : tgV tg vl env2 with
      | none =>
        rw [ht] at k
        exact k.elim
      | some env' =>
        rw [ht] at k
        refine hg.2 L m2 h2 H'' env2 env' σ' vl x _ rh' (re2.grow g') rv ht fun σ2 re3 _ _ => ?_
        exact body_step (K := fun env h => forL (turnF tg eb) (xs.drop (i + 1)) env h) (g.tr rh2 g') rh' re3 k fun σ3 H3 z => z
    · obtain ⟨m2, h2, env2, g, rh2, re2, k⟩ := z
      rw [List.drop_length] at k
      exact k m2 H' σ' g rh2 re2
  | live n =>
    obtain ⟨a, ea, rfl⟩ := rw1
    have k1 : okS Γ W L m1 H1 (forN (turnF tg eb) n fuelW 0 env h1) D := k1
    refine ⟨fun i mm σ' H' => FSt Γ W L m1 H1 D (fun env h => forN (turnF tg eb) n mm i env h) σ' H', ⟨fuelW, m1, h1, env, Grow.refl _ _, rh1, re1, k1⟩, fun i mm σ' H' z => ?_⟩
    obtain ⟨m2, h2, env2, g, rh2, re2, k⟩ := z
    cases mm with
    | zero => exact k.elim
    | succ mm =>
      have e2 := g.get ea
      replace k : okS Γ W L m1 H1 (match h2[n]? with
        | some (.lst ys) => match ys[i]? with
          | some x => stepF (turnF tg eb) (fun env h => forN (turnF tg eb) n mm (i + 1) env h) x env2 h2
          | none => .ok (.nx env2) h2
        | _ => .bad) D := k
      split at k
      · rename_i ys hy
        obtain ⟨ws, e3, rr⟩ := rh2.at_ e2 hy
        split at k
        · rename_i x hx
          obtain ⟨u, eu, ru⟩ := rr.get hx
          refine .inr ⟨⟨ws, u, SqL.of e3, eu⟩, _, fun σ3 H3 z => ⟨mm, Nat.lt_succ_self _, z⟩, fun v H'' y => ?_⟩
          obtain ⟨rfl, y⟩ := y
          have := y ws (SqL.of e3)
          rw [eu] at this
          cases this
          unfold stepF turnF at k
          cases ht : tgV tg x env2 with
          | none =>
            rw [ht] at k
            exact k.elim
          | some env' =>
            rw [ht] at k
            refine hg.2 L m2 h2 H'' env2 env' σ' x _ _ rh2 re2 ru ht fun σ2 re3 _ _ => ?_
            exact body_step (K := fun env h => forN (turnF tg eb) n mm (i + 1) env h) g rh2 re3 k fun σ3 H3 z => z
        · rename_i hx
          refine .inl ⟨⟨ws, SqL.of e3, ?_⟩, k m2 H' σ' g rh2 re2⟩
          rw [← rr.length]
          exact List.getElem?_eq_none_iff.mp hx
      · exact k.elim
theorem s_while {c : Expr} {body : List Stmt} {pos : Pos} {ec : Env → Hh → R Vl} {eb : Env → Hh → R Oc} (C : Cn X Γ W) (hp : PassesOwn (model X.prog X.w) X.A X.env X.xe) (hc : PT X c (tB' Γ W (tru ec))) (hb : PSs X body (tS Γ W eb)) :
    PS X (.While c body [] pos) (tS Γ W fun env h => whileL (tru ec) eb fuelW env h) := by
  refine ps_imp (ps_while hp hc hb) fun D σ H hq => ?_
  obtain ⟨L, m, h, env, rh, re, k⟩ := hq
  refine ⟨fun mm σ' H' => FSt Γ W L m H D (fun env h => whileL (tru ec) eb mm env h) σ' H', ⟨fuelW, m, h, env, Grow.refl _ _, rh, re, k⟩, fun mm σ' H' z => ?_⟩
  obtain ⟨m2, h2, env2, g, rh2, re2, k⟩ := z
  cases mm with
  | zero => exact k.elim
  | succ mm =>
    replace k : okS Γ W L m H (match tru ec env2 h2 with
      | .ok true h1 => match eb env2 h1 with
        | .ok (.nx env2) h2 => whileL (tru ec) eb mm env2 h2
        | .ok (.ct env2) h2 => whileL (tru ec) eb mm env2 h2
        | .ok (.bk env2) h2 => .ok (.nx env2) h2
        | .ok (.rt v) h2 => .ok (.rt v) h2
        | .exc c p h2 => .exc c p h2
        | .bad => .bad
      | .ok false h1 => .ok (.nx env2) h1
      | .exc c p h1 => .exc c p h1
      | .bad => .bad) D := k
    refine ⟨L, m2, h2, env2, rh2, re2, ?_⟩
    cases hr : tru ec env2 h2 with
    | bad =>
      rw [hr] at k
      exact k
    | exc c p h3 =>
      rw [hr] at k
      exact fun m' H3 d g' rh' rx => k m' H3 d σ' (g.tr rh2 g') rh' rx
    | ok b h3 =>
      rw [hr] at k
      intro m3 H3 u g3 rh3 e
      cases e
      cases b with
      | false =>
        rw [if_neg Bool.false_ne_true]
        exact k m3 H3 σ' (g.tr rh2 g3) rh3 (re2.grow g3)
      | true =>
        rw [if_pos rfl]
        refine ⟨_, fun σ4 H4 z => ⟨mm, Nat.lt_succ_self _, z⟩, ?_⟩
        exact body_step (K := fun env h => whileL (tru ec) eb mm env h) (g.tr rh2 g3) rh3 (re2.grow g3) k fun σ3 H3 z => z
end
end Mi
set_option Elab.async false
set_option linter.all false
set_option maxRecDepth 100000
set_option maxHeartbeats 4000000
namespace Mi
open PySem PySem.Spec PyProof.Rows L2
def isLC : Expr → Bool
  | .ListComp _ _ _ _ => true
  | .SetComp _ _ _ _ => true
  | .DictComp _ _ _ _ _ => true
  | _ => false
theorem swaps_no {e : Expr} {t : Option Expr} {l : Nat} {env : PySem.Env} (h : isLC e = false) : swapsWith e t l env = pure false := by
  cases e <;> first | rfl | (cases h)
theorem swaps_tup {e : Expr} {ts : List Expr} {k : Nat} {pos : Pos} {l : Nat} {env : PySem.Env} : swapsWith e (some (.Tuple ts k pos)) l env = pure false := by
  cases e <;> rfl
def isTup : Expr → Bool
  | .Tuple _ _ _ => true
  | .List _ _ => true
  | _ => false
theorem swapped_no {t e : Expr} {env : PySem.Env} (h : isTup e = false) : swappedStores [t] e env = pure none := by
  cases e <;> first | (cases h; done) | (cases t <;> rfl)
section
variable {X : Cx} {Γ : Gm} {W : WX} {e a b : Expr} {pos p : Pos} {ea ei eo : Env → Hh → R Vl} {sa sb : Env → Hh → R Oc} {as bs : List Stmt}
def nxR (env : Env) (h : Hh) : R Oc := .ok (.nx env) h
theorem s_skip {st : Stmt} (h : PS X st tNext) : PS X st (tS Γ W nxR) := by
  refine ps_imp h fun D σ H hq => ?_
  obtain ⟨L, m, h, env, rh, re, k⟩ := hq
  exact okS.now k rh re
theorem ss_nil : PSs X [] (tS Γ W nxR) := by
  refine pss_imp pss_nil fun D σ H hq => ?_
  obtain ⟨L, m, h, env, rh, re, k⟩ := hq
  exact okS.now k rh re
theorem ss_one {st : Stmt} (h : PS X st (tS Γ W sa)) : PSs X [st] (tS Γ W sa) := pss_one h
theorem ss_cons {st : Stmt} (h : PS X st (tS Γ W sa)) (hr : PSs X bs (tS Γ W sb)) : PSs X (st :: bs) (tS Γ W fun env h => bndS (sa env h) sb) := by
  refine pss_imp (pss_cons h hr) fun D σ H hq => ?_
  obtain ⟨L, m, h, env, rh, re, k⟩ := hq
  exact ⟨L, m, h, env, rh, re, okS.seq k⟩
theorem s_expr (he : PE X e (tE Γ W ea)) (hl : isLC e = false) : PS X (.Expr e pos) (tS Γ W fun env h => bnd (ea env h) fun _ h => .ok (.nx env) h) := by
  refine ps_imp (ps_expr he (swaps_no hl)) fun D σ H hq => ?_
  obtain ⟨L, m, h, env, rh, re, k⟩ := hq
  exact ⟨L, m, h, env, rh, re, okS.bind k fun m1 H1 x h1 u g1 rh1 rx k1 => k1.now rh1 (re.grow g1)⟩
def asgR (tg : Tg) (env : Env) (v : Vl) (h : Hh) : R Oc := match tgV tg v env with
  | some env' => .ok (.nx env') h
  | none => .bad
theorem asg_te {tg : Tg} {target : Expr} {g : TG} {te : TE} (hg : TgOk X Γ tg target g) {D : Ends} {σ : L2.St} {H : Hp} (hq : tS Γ W (fun env h => bnd (ea env h) (asgR tg env)) D σ H) : tE Γ W ea σ H fun x H1 => g x σ H1 D.nx := by
  obtain ⟨L, m, h, env, rh, re, k⟩ := hq
  refine ⟨L, m, h, env, rh, re, okS.bind k fun m1 H1 x h1 u g1 rh1 rx k1 => ?_⟩
  unfold asgR at k1
  split at k1
  · rename_i env' he
    exact hg.2 L m1 h1 H1 env env' σ x u _ rh1 (re.grow g1) rx he fun σ' re' _ _ => k1.now rh1 re'
  · exact k1.elim
theorem s_asg {tg : Tg} {target : Expr} {g : TG} (he : PE X e (tE Γ W ea)) (hg : TgOk X Γ tg target g) (hs : swapsWith e (some target) pos.line X.env = pure false) (hw : swappedStores [target] e X.env = pure none) (hst : isStar target = false) :
    PS X (.Assign [target] e pos) (tS Γ W fun env h => bnd (ea env h) (asgR tg env)) :=
  ps_imp (ps_asg he hg.1 hs hw (by cases target <;> first | rfl | cases hst)) fun D σ H hq => asg_te (te := tE Γ W ea) hg hq
theorem s_set {i : Nat} {x : Str} (C : Cn X Γ W) (hi : X.N[i]? = some x) (hx : Loc X.env.scope x) (hf : X.fn x = true ∨ X.env.scope.names.lookup x = some .local) (he : PE X e (tE Γ W ea)) (hs : swapsWith e (some (.Name x p)) pos.line X.env = pure false) :
    PS X (.Assign [.Name x p] e pos) (tS Γ W fun env h => bnd (ea env h) (asgR (.n i) env)) :=
  ps_imp (ps_set C.nd hi hx he hs hf) fun D σ H hq => asg_te (te := tE Γ W ea) (tg_name C.nd hi hx hf (pos := p)) hq
theorem s_ret (he : PE X e (tE Γ W ea)) : PS X (.Return (some e) pos) (tS Γ W fun env h => bnd (ea env h) fun v h => .ok (.rt v) h) := by
  refine ps_imp (ps_ret he) fun D σ H hq => ?_
  obtain ⟨L, m, h, env, rh, re, k⟩ := hq
  exact ⟨L, m, h, env, rh, re, okS.bind k fun m1 H1 x h1 u g1 rh1 rx k1 => k1 m1 H1 u (Grow.refl _ _) rh1 rx⟩
theorem s_retN : PS X (.Return none pos) (tS Γ W fun env h => bnd (.ok .non h) fun v h => .ok (.rt v) h) := by
  refine ps_imp ps_retN fun D σ H hq => ?_
  obtain ⟨L, m, h, env, rh, re, k⟩ := hq
  exact k m H .non (Grow.refl _ _) rh rfl
theorem s_brk : PS X (.Break pos) (tS Γ W fun env h => .ok (.bk env) h) := by
  refine ps_imp ps_break fun D σ H hq => ?_
  obtain ⟨L, m, h, env, rh, re, k⟩ := hq
  exact k m H σ (Grow.refl _ _) rh re
theorem s_cnt : PS X (.Continue pos) (tS Γ W fun env h => .ok (.ct env) h) := by
  refine ps_imp ps_continue fun D σ H hq => ?_
  obtain ⟨L, m, h, env, rh, re, k⟩ := hq
  exact k m H σ (Grow.refl _ _) rh re
def ifR (x : Vl) (h : Hh) (f g : R Oc) : R Oc := match truth h x with
  | some true => f
  | some false => g
  | none => .bad
theorem s_if {c : Expr} {ec : Env → Hh → R Vl} (hc : PT X c (tB' Γ W (tru ec))) (ha : PSs X as (tS Γ W sa)) (hb : PSs X bs (tS Γ W sb)) : PS X (.If c as bs pos) (tS Γ W fun env h => bnd (ec env h) fun x h => ifR x h (sa env h) (sb env h)) := by
  refine ps_imp (ps_if hc ha hb) fun D σ H hq => ?_
  obtain ⟨L, m, h, env, rh, re, k⟩ := hq
  refine ⟨L, m, h, env, rh, re, ?_⟩
  unfold tru
  dsimp only at k
  cases hr : ec env h with
  | exc c p h1 =>
    rw [hr] at k
    exact fun m' H' d g rh rx => k m' H' d σ g rh rx
  | bad =>
    rw [hr] at k
    exact k
  | ok x h1 =>
    rw [hr] at k
    have k : okS Γ W L m H (ifR x h1 (sa env h1) (sb env h1)) D := k
    show okG Γ W L m H σ _ (lift (truth h1 x) h1) _
    unfold ifR at k
    split at k
    · rename_i ht
      rw [ht]
      intro m1 H1 u g1 rh1 e
      cases e
      rw [if_pos rfl]
      exact ⟨L, m1, h1, env, rh1, re.grow g1, okS.later k g1 rh1⟩
    · rename_i ht
      rw [ht]
      intro m1 H1 u g1 rh1 e
      cases e
      rw [if_neg Bool.false_ne_true]
      exact ⟨L, m1, h1, env, rh1, re.grow g1, okS.later k g1 rh1⟩
    · exact k.elim
def augR' (o : BO) (i : Nat) (env : Env) (x y : Vl) (h : Hh) : R Oc := match augV o h x y with
  | some v => .ok (.nx (putE env i v)) h
  | none => .bad
theorem s_aug {i : Nat} {x : Str} {o : BO} (C : Cn X Γ W) (hi : X.N[i]? = some x) (hx : Loc X.env.scope x) (hf : X.fn x = true ∨ X.env.scope.names.lookup x = some .local) (he : PE X e (tE Γ W ea)) :
    PS X (.AugAssign (.Name x p) (bo o) e pos) (tS Γ W fun env h => match env[i]? with
      | some (some x) => bnd (ea env h) fun y h => augR' o i env x y h
      | _ => .bad) := by
  refine ps_imp (ps_aug C.nd hi hx he (op_augV (Γ := Γ) o) hf) fun D σ H hq => ?_
  obtain ⟨L, m, h, env, rh, re, k⟩ := hq
  dsimp only at k
  split at k
  · rename_i v hv
    obtain ⟨u, e1, r⟩ := re.2 i v hv
    refine ⟨u, e1, L, m, h, env, rh, re, okS.bind k fun m1 H1 y h1 w g1 rh1 ry k1 => ?_⟩
    unfold augR' at k1
    split at k1
    · rename_i z hz
      refine ⟨L, m1, h1, v, y, z, rh1, r.grow g1, ry, hz, fun m2 H2 w2 g2 rh2 rz => ?_⟩
      exact k1 m2 H2 _ g2 rh2 (((re.grow g1).grow g2).put rz i)
    · exact k1.elim
  · exact k.elim
def isSlice : Expr → Bool
  | .Slice _ _ _ _ => true
  | _ => false
def setsR (env : Env) (h : Hh) (x y v : Vl) : R Oc := match setV h x y v with
  | some h => .ok (.nx env) h
  | none => .bad
theorem s_sets {o i : Expr} (C : Cn X Γ W) (he : PE X e (tE Γ W ea)) (ho : PE X o (tE Γ W eo)) (hi : PE X i (tE Γ W ei)) (hl : isLC e = false) (ht : isTup e = false) (hi' : isSlice i = false) :
    PS X (.Assign [.Subscript o i p] e pos) (tS Γ W fun env h => bnd (ea env h) fun v h => bnd (eo env h) fun x h => bnd (ei env h) fun y h => setsR env h x y v) := by
  refine ps_imp (ps_asg he (pg_sub ho hi (set_setV (Γ := Γ) C.u1) (by intros; cases i <;> first | rfl | cases hi')) (show swapsWith e (some (.Subscript o i p)) pos.line X.env = pure false from swaps_no hl) (swapped_no ht) rfl) fun D σ H hq => ?_
  obtain ⟨L, m, h, env, rh, re, k⟩ := hq
  refine ⟨L, m, h, env, rh, re, okS.bind k fun m1 H1 v h1 w g1 rh1 rv k1 => ⟨L, m1, h1, env, rh1, re.grow g1, okS.bind k1 fun m2 H2 x h2 u g2 rh2 rx k2 => ⟨L, m2, h2, env, rh2, (re.grow g1).grow g2, okS.bind k2 fun m3 H3 y h3 z g3 rh3 ry k3 => ?_⟩⟩⟩
  unfold setsR at k3
  split at k3
  · rename_i h4 hh
    refine ⟨L, m3, h3, x, y, v, h4, rh3, rx.grow g3, ry, (rv.grow g2).grow g3, hh, fun H4 g4 rh4 => ?_⟩
    exact k3 m3 H4 σ g4 rh4 (((re.grow g1).grow g2).grow g3 |>.grow g4)
  · exact k3.elim
theorem get_getO {hu : X.A.units + 1 < cLine} : PGet X (rV Γ getO) := by
  intro pins s σ H o i ov iv Q I ro ri hq
  obtain ⟨L, m, h, a, b, z, rh, ra, rb, e, k⟩ := hq
  unfold getO at e
  split at e
  · rename_i n
    obtain ⟨p, rfl, q⟩ := ra
    have dk : ∀ (us : List (Key × V)) (kvs : List (Vl × Vl)), H p = some (.dK us) → RepKs Γ L m H kvs us → keyOk b = true → dget b kvs = some z → wpAny (model X.prog X.w) X.A (getItem ov iv) (EP X pins σ Q) X.xe s := fun us kvs q rr hko hg => by
      obtain ⟨j, rk, ey⟩ := key_rep hko rb
      obtain ⟨w, hw, rw'⟩ := dget_some rk rr hg
      cases ro
      have g : DGet H p i (some w) := by
        rw [ey, ← hw]
        exact DGet.k q
      exact d_getItem hu I g ri fun w' s3 I3 r3 => ⟨w, H, I3, r3, k.now rh rw'⟩
    unfold subV at e
    dsimp only at e
    split at e
    · rename_i ix
      split at e
      · rename_i xs hx
        split at e
        · rename_i j hj
          obtain ⟨us, e2, rr⟩ := rh.at_ q hx
          obtain ⟨w, hw, rw'⟩ := rr.get e
          have ha := atI_of (us := us) rr.length.symm hj hw
          cases ro
          cases (show i = .int _ from rb)
          obtain ⟨t, rfl⟩ := ri
          obtain ⟨its, r, pl, hz⟩ := I.list (SqL.of e2)
          obtain ⟨j, h1, h2, h3, h4, h5⟩ := atI_get ha
          obtain ⟨w', ew, rw2⟩ := r.get h2
          have hl := r.length
          have hn := line63
          have fin : EP X pins σ Q w' s := ⟨w, H, I, rw2, k.now rh rw'⟩
          by_cases h0 : 0 ≤ ix
          · have hj : ix.toNat = j := by
              rw [seqIndex_of h0 h5] at h1
              exact Option.some.inj h1
            exact wpAny_getItem_list pl.isList h0 (by omega) (by rw [hj]; simpa using ew) fin
          · have hj : (ix + (its.toArray.size : Int)).toNat = j := by
              rw [seqIndex_neg (by omega) h4] at h1
              rw [List.size_toArray, ← hl]
              exact Option.some.inj h1
            exact wpAny_getItem_list_neg pl.isList (by omega) (by rw [List.size_toArray] <;> omega) (by omega) (by rw [hj]; simpa using ew) fin
        · cases e
      · rename_i kvs hk
        obtain ⟨us, e2, rr⟩ := rh.at_ q hk
        exact dk us kvs e2 rr rfl e
      · cases e
    · split at e
      · rename_i kvs hk
        obtain ⟨us, e2, rr⟩ := rh.at_ q hk
        exact dk us kvs e2 rr rfl e
      · cases e
    · cases e
  · cases e
def augsR (b : BO) (env : Env) (x y z w : Vl) (h : Hh) : R Oc := match augV b h z w with
  | some v => setsR env h x y v
  | none => .bad
def augs0 (ea : Env → Hh → R Vl) (b : BO) (env : Env) (x y : Vl) (h : Hh) : R Oc := match getO h x y with
  | some z => bnd (ea env h) fun w h => augsR b env x y z w h
  | none => .bad
theorem s_augs {o i : Expr} {b : BO} (C : Cn X Γ W) (he : PE X e (tE Γ W ea)) (ho : PE X o (tE Γ W eo)) (hi : PE X i (tE Γ W ei)) (hl : isSlice i = false) :
    PS X (.AugAssign (.Subscript o i p) (bo b) e pos) (tS Γ W fun env h => bnd (eo env h) fun x h => bnd (ei env h) fun y h => augs0 ea b env x y h) := by
  refine ps_imp (ps_augS ho hi (get_getO (hu := C.u1) (Γ := Γ)) he (op_augV (Γ := Γ) b) (set_setV (Γ := Γ) C.u1) (by intros; cases i <;> first | rfl | cases hl)) fun D σ H hq => ?_
  obtain ⟨L, m, h, env, rh, re, k⟩ := hq
  refine ⟨L, m, h, env, rh, re, okS.bind k fun m1 H1 x h1 u g1 rh1 rx k1 => ⟨L, m1, h1, env, rh1, re.grow g1, okS.bind k1 fun m2 H2 y h2 v g2 rh2 ry k2 => ?_⟩⟩
  have re2 := (re.grow g1).grow g2
  unfold augs0 at k2
  split at k2
  · rename_i z hz
    refine ⟨L, m2, h2, x, y, z, rh2, rx.grow g2, ry, hz, fun m3 H3 w g3 rh3 rz => ?_⟩
    refine ⟨L, m3, h2, env, rh3, re2.grow g3, okS.bind (okS.later k2 g3 rh3) fun m4 H4 w1 h4 w2 g4 rh4 rw4 k4 => ?_⟩
    unfold augsR at k4
    split at k4
    · rename_i v1 hv1
      refine ⟨L, m4, h4, z, w1, v1, rh4, rz.grow g4, rw4, hv1, fun m5 H5 u5 g5 rh5 r5 => ?_⟩
      have k5 := okS.later k4 g5 rh5
      unfold setsR at k5
      split at k5
      · rename_i h6 hh
        refine ⟨L, m5, h4, x, y, v1, h6, rh5, ((rx.grow g2).grow g3 |>.grow g4).grow g5, ((ry.grow g3).grow g4).grow g5, r5, hh, fun H6 g6 rh6 => ?_⟩
        exact k5 m5 H6 σ g6 rh6 (((re2.grow g3).grow g4).grow g5 |>.grow g6)
      · exact k5.elim
    · exact k4.elim
  · exact k2.elim
end
end Mi
set_option Elab.async false
set_option linter.all false
set_option maxRecDepth 100000
set_option maxHeartbeats 4000000
namespace Mi
open PySem PySem.Spec PyProof.Rows L2
def swNames (sc : Scope) (line : Nat) (ts : List Expr) : List Str := ts.filterMap fun
  | .Name id pos => if sc.names.lookup id == some .local && pos.line == line then some id else none
  | _ => none
def lineOf (ts : List Expr) : Nat := (ts.head?.map (·.pos.line)).getD 0
def hasStar (vs : List Expr) : Bool := vs.any fun | .Starred .. => true | _ => false
def swK (sc : Scope) (ts vs : List Expr) : Nat :=
  if (!(ts.length == 2 || ts.length == 3) || vs.length != ts.length || sc.kind != .function) = true then 0
  else if hasStar vs = true then 0
  else if ((swNames sc (lineOf ts) ts).length != ts.length || (swNames sc (lineOf ts) ts).eraseDups.length != (swNames sc (lineOf ts) ts).length) = true then 0
  else if vs.all (foldedForSure 8) = true then 0
  else if vs.all (constantsAlone 8) = true then 2
  else 1
theorem sw_raw {env : PySem.Env} {ts vs : List Expr} {k k2 : Nat} {p p2 : Pos} :
    swappedStores [.Tuple ts k p] (.Tuple vs k2 p2) env = (
  if (!(ts.length == 2 || ts.length == 3) || vs.length != ts.length || env.blockKind != .function) = true then pure none
  else if hasStar vs = true then pure none
  else if ((swNames env.scope (lineOf ts) ts).length != ts.length || (swNames env.scope (lineOf ts) ts).eraseDups.length != (swNames env.scope (lineOf ts) ts).length) = true then pure none
  else if vs.all (foldedForSure 8) = true then pure none
  else do
    if vs.all (constantsAlone 8) = true then unsupported "assign.tuple-of-constant-expressions:order-of-the-stores"
    pure (some (swNames env.scope (lineOf ts) ts))) := rfl
theorem sw_eq {env : PySem.Env} {ts vs : List Expr} {k k2 : Nat} {p p2 : Pos} (hk : env.scope.kind = .function) :
    (swK env.scope ts vs = 0 → swappedStores [.Tuple ts k p] (.Tuple vs k2 p2) env = pure none) ∧ (swK env.scope ts vs = 1 → swappedStores [.Tuple ts k p] (.Tuple vs k2 p2) env = pure (some (swNames env.scope (lineOf ts) ts))) := by
  have hb : env.blockKind = env.scope.kind := by
    unfold Env.blockKind
    rw [hk]
    rfl
  rw [sw_raw, hb]
  unfold swK
  split
  · exact ⟨fun _ => rfl, fun h => by cases h⟩
  · split
    · exact ⟨fun _ => rfl, fun h => by cases h⟩
    · split
      · exact ⟨fun _ => rfl, fun h => by cases h⟩
      · split
        · exact ⟨fun _ => rfl, fun h => by cases h⟩
        · split
          · exact ⟨fun h => (by cases h), fun h => by cases h⟩
          · exact ⟨fun h => (by cases h), fun _ => rfl⟩
section
variable {X : Cx} {Γ : Gm} {W : WX} {pos pt pt2 : Pos} {kt k2 : Nat} {el : Env → Hh → R (List Vl)} {ts vs : List Expr}
def parR (is : List Nat) (env : Env) (vs : List Vl) (h : Hh) : R Oc := match putEs env is vs with
  | some env' => .ok (.nx env') h
  | none => .bad
theorem s_parA {is : List Nat} {gs : TGs} (C : Cn X Γ W) (hg : TgsOk X Γ is ts gs) (hl : ts.length = is.length) (hst : noStars ts = true) (hz : is.length ≤ 1000) (ha : PA X vs (tL Γ W el)) (hw : swappedStores [.Tuple ts kt pt] (.Tuple vs k2 pt2) X.env = pure none) :
    PS X (.Assign [.Tuple ts kt pt] (.Tuple vs k2 pt2) pos) (tS Γ W fun env h => bnd (el env h) (parR is env)) := by
  refine ps_imp (ps_asg (pe_tup ha) (pg_tup C.calm hg.1 ((assign_plain hst).1.trans hl) (assign_find hst)) (show swapsWith (.Tuple vs k2 pt2) (some (.Tuple ts kt pt)) pos.line X.env = pure false from swaps_tup) hw rfl) fun D σ H hq => ?_
  obtain ⟨L, m, h, env, rh, re, k⟩ := hq
  refine ⟨L, m, h, env, rh, re, okS.bind k fun m1 H1 xs h1 us g1 rh1 rx k1 => ?_⟩
  unfold parR at k1
  split at k1
  · rename_i env' he
    have hl2 := putEs_len he
    have hlu : us.length = is.length := by rw [← rx.length]; exact hl2
    have g2 : ∀ p, H1 p = none → Grow m1 H1 m1 (upd H1 p (.tup us)) := fun p hp => Grow.fresh hp
    refine ⟨by rw [hlu]; exact Nat.le_of_lt (small1000 hz), fun p hp => ?_⟩
    rw [C.K]
    refine ⟨p, us, rfl, SqT.of upd_same, hlu, ?_⟩
    refine hg.2 L m1 h1 _ env env' σ xs us _ (rh1.fresh hp) ((re.grow g1).grow (g2 p hp)) (rx.grow' (g2 p hp)) he fun σ' re' _ _ => ?_
    exact k1 m1 _ σ' (g2 p hp) (rh1.fresh hp) re'
  · exact k1.elim
theorem s_par2 {i j : Nat} {x y : Str} {a b : Expr} {px py : Pos} (C : Cn X Γ W) (hi : X.N[i]? = some x) (hj : X.N[j]? = some y) (hij : i ≠ j) (hx : X.env.scope.names.lookup x = some .local) (hy : X.env.scope.names.lookup y = some .local) (ha : PA X [a, b] (tL Γ W el))
    (hw : swappedStores [.Tuple [.Name x px, .Name y py] kt pt] (.Tuple [a, b] k2 pt2) X.env = pure (some [x, y])) :
    PS X (.Assign [.Tuple [.Name x px, .Name y py] kt pt] (.Tuple [a, b] k2 pt2) pos) (tS Γ W fun env h => bnd (el env h) (parR [i, j] env)) := by
  refine ps_imp (ps_par C.calm C.nd hi hj hij hx hy ha hw) fun D σ H hq => ?_
  obtain ⟨L, m, h, env, rh, re, k⟩ := hq
  refine ⟨L, m, h, env, rh, re, okS.bind k fun m1 H1 xs h1 us g1 rh1 rx k1 => ?_⟩
  unfold parR at k1
  split at k1
  · rename_i env' he
    match xs, us, rx, he with
    | [u, v], [u', v'], rx, he =>
      cases Option.some.inj he
      exact ⟨u', v', rfl, k1.now rh1 (((re.grow g1).put rx.1 i).put rx.2.1 j)⟩
    | [], _, _, he => cases he
    | [_], _, _, he => cases he
    | _ :: _ :: _ :: _, _, _, he => cases he
  · exact k1.elim
theorem s_par3 {i j l : Nat} {x y z : Str} {a b c : Expr} {px py pz : Pos} (C : Cn X Γ W) (hi : X.N[i]? = some x) (hj : X.N[j]? = some y) (hl : X.N[l]? = some z) (hij : i ≠ j) (hil : i ≠ l) (hjl : j ≠ l) (hx : X.env.scope.names.lookup x = some .local) (hy : X.env.scope.names.lookup y = some .local) (hz : X.env.scope.names.lookup z = some .local)
    (ha : PA X [a, b, c] (tL Γ W el)) (hw : swappedStores [.Tuple [.Name x px, .Name y py, .Name z pz] kt pt] (.Tuple [a, b, c] k2 pt2) X.env = pure (some [x, y, z])) :
    PS X (.Assign [.Tuple [.Name x px, .Name y py, .Name z pz] kt pt] (.Tuple [a, b, c] k2 pt2) pos) (tS Γ W fun env h => bnd (el env h) (parR [i, j, l] env)) := by
  refine ps_imp (ps_par3 C.calm C.nd hi hj hl hij hil hjl hx hy hz ha hw) fun D σ H hq => ?_
  obtain ⟨L, m, h, env, rh, re, k⟩ := hq
  refine ⟨L, m, h, env, rh, re, okS.bind k fun m1 H1 xs h1 us g1 rh1 rx k1 => ?_⟩
  unfold parR at k1
  split at k1
  · rename_i env' he
    match xs, us, rx, he with
    | [u, v, w], [u', v', w'], rx, he =>
      cases Option.some.inj he
      exact ⟨u', v', w', rfl, k1.now rh1 ((((re.grow g1).put rx.1 i).put rx.2.1 j).put rx.2.2.1 l)⟩
    | [], _, _, he => cases he
    | [_], _, _, he => cases he
    | [_, _], _, _, he => cases he
    | _ :: _ :: _ :: _ :: _, _, _, he => cases he
  · exact k1.elim
variable {tg : Tg} {elt target iter : Expr} {ifs : List Expr} {scope : Scope} {own : List (Str × Nat)} {g : TG} {ec : Env → Hh → R Bool} {ee : Env → Hh → R Vl} {ew : Env → Hh → R Wk} {spos py : Pos}
abbrev InBlk (X : Cx) (scope : Scope) (P : Cx → Prop) : Prop := ∀ (s : Shared) (H : Hp) (C : Addr) (cl : List (Str × Addr)) (fp : List Addr), P (X.blk s H scope (compEnvC scope cl C X.env) fp)
theorem f_comp (C : Cn X Γ W) (hi : PI X target iter (tW Γ W ew)) (ok : BlkOk X.N X.env.scope scope own) (hg : InBlk X scope fun X => TgOk X Γ tg target g) (ht : InBlk X scope fun X => PTs X ifs (tB' Γ W0 ec)) (he : InBlk X scope fun X => PE X elt (tE Γ W0 ee))
    (ho : ∀ i ∈ slots tg, i ∈ own.map (·.2)) (hs : ∀ x, foldedSetIterable iter X.env x = pure x) :
    PE X (.ListComp elt [⟨target, iter, ifs, 0⟩] scope pos) (tF Γ W fun env h => bnd (ew env h) fun w h => walkC (turnR tg (own.map (·.2)) env ec ee) w h) := by
  refine pe_imp (pe_lc C.calm C.nd hi ok (fun s H A cl fp => (hg s H A cl fp).1) ht he hs) fun σ H Q hq => ?_
  exact comp_te _ (hg {} H 0 [] []) ho hq
theorem okS.fz {L m : List Addr} {H : Hp} {h : Hh} {σ : L2.St} {r : R (List Vl)} {f : Vl → Hh → R Oc} {D : Ends} {Q : VK} (k : okS Γ W L m H (bnd (bnd r fun xs h => .ok (.lst xs) h) f) D)
    (st : ∀ m1 H1 a h1 u, Grow m H m1 H1 → RepH Γ L m1 h1 H1 → RepV Γ L m1 H1 a u → okS Γ W L m1 H1 (f a h1) D → Q u H1) : okF Γ W L m H σ r Q := by
  cases r with
  | ok xs h => exact fun m' H' D us g hD n1 n2 e rr rh => st m' H' (.lst xs) h (.ref D) g rh.joined ⟨D, us, rfl, e, n1, n2, rr.joined⟩ (okS.later k g rh.joined)
  | exc c p h => exact fun m' H' d g rh rx => k m' H' d σ g rh rx
  | bad => exact k
theorem okS.th {L m : List Addr} {H : Hp} {h : Hh} {σ : L2.St} {r : R (List Vl)} {f : Vl → Hh → R Oc} {D : Ends} {Q : VK} (k : okS Γ W L m H (bnd (bnd r fun xs h => .ok (.ref h.length) (h ++ [.lst xs])) f) D)
    (st : ∀ m1 H1 a h1 u, Grow m H m1 H1 → RepH Γ L m1 h1 H1 → RepV Γ L m1 H1 a u → okS Γ W L m1 H1 (f a h1) D → Q u H1) : okF Γ W L m H σ r Q := by
  cases r with
  | ok xs h =>
    refine fun m' H' D us g hD n1 n2 e rr rh => ?_
    have g' : Grow m H (m' ++ [D]) H' := by
      refine ⟨?_, g.keep, g.tup, g.frz, g.own⟩
      obtain ⟨t, e1, f⟩ := g.ext
      refine ⟨t ++ [D], by rw [e1, List.append_assoc], fun a ha => ?_⟩
      rcases List.mem_append.mp ha with z | z
      · exact f a z
      · rw [List.mem_singleton.mp z]
        exact hD
    have rh' := rh.moved n1 n2 e rr
    refine st (m' ++ [D]) H' (.ref h.length) _ (.ref D) g' rh' ⟨D, rfl, ?_⟩ (okS.later k g' rh')
    rw [← rh.len, List.getElem?_append_right (Nat.le_refl _), Nat.sub_self]
    rfl
  | exc c p h => exact fun m' H' d g rh rx => k m' H' d σ g rh rx
  | bad => exact k
def keepR (w : Bool) (xs : List Vl) (h : Hh) : R Vl := match w with
  | true => .ok (.ref h.length) (h ++ [.lst xs])
  | false => .ok (.lst xs) h
theorem s_setLc {w : Bool} {i : Nat} {x : Str} (C : Cn X Γ W) (hx : X.N[i]? = some x) (hl : X.env.scope.names.lookup x = some .local) (hsw : swapsWith (.ListComp elt [⟨target, iter, ifs, 0⟩] scope pos) (some (.Name x py)) spos.line X.env = pure true)
    (hi : PI X target iter (tW Γ W ew)) (ok : BlkOk X.N X.env.scope scope own) (hg : InBlk X scope fun X => TgOk X Γ tg target g) (ht : InBlk X scope fun X => PTs X ifs (tB' Γ W0 ec)) (he : InBlk X scope fun X => PE X elt (tE Γ W0 ee))
    (ho : ∀ i ∈ slots tg, i ∈ own.map (·.2)) (hs : ∀ x, foldedSetIterable iter X.env x = pure x) :
    PS X (.Assign [.Name x py] (.ListComp elt [⟨target, iter, ifs, 0⟩] scope pos) spos) (tS Γ W fun env h => bnd (bnd (bnd (ew env h) fun w h => walkC (turnR tg (own.map (·.2)) env ec ee) w h) (keepR w)) (asgR (.n i) env)) := by
  refine ps_imp (ps_setLc C.calm C.nd hx hl hsw hi ok (fun s H A cl fp => (hg s H A cl fp).1) ht he hs) fun D σ H hq => ?_
  show tLc (tW Γ W ew) g (tB' Γ W0 ec) (tE Γ W0 ee) (own.map (·.2)) σ H fun x H1 => gName i x σ H1 D.nx
  refine comp_te _ (hg {} H 0 [] []) ho ?_
  obtain ⟨L, m, h, env, rh, re, k⟩ := hq
  refine ⟨L, m, h, env, rh, re, ?_⟩
  have fin : ∀ m1 H1 a h1 u, Grow m H m1 H1 → RepH Γ L m1 h1 H1 → RepV Γ L m1 H1 a u → okS Γ W L m1 H1 (asgR (.n i) env a h1) D → gName i u σ H1 D.nx := fun m1 H1 a h1 u g1 rh1 ra k1 => okS.now (show okS Γ W L m1 H1 (.ok (.nx (putE env i a)) h1) D from k1) rh1 ((re.grow g1).put ra i)
  cases w with
  | true => exact okS.th (h := h) k fin
  | false => exact okS.fz (h := h) k fin
end
end Mi
set_option Elab.async false
set_option linter.all false
set_option maxRecDepth 100000
set_option maxHeartbeats 4000000
namespace Mi
open PySem PySem.Spec PyProof.Rows L2
structure OwnOk (Γ : Gm) (c : Nat) : Prop where
  cls : L2.SCls Γ.K (Γ.ca c)
  fc : PySem.W.findIn Γ.K (.ref (Γ.ca c)) "__class__" = some (some (.builtin "object.__class__"))
  sp : PySem.W.specialIn Γ.K (.builtin "object.__class__") "__get__" = some (some (.builtin "getset_descriptor.__get__"))
  tk : PySem.W.takesIn Γ.K (.builtin "object.__class__") = some true
  mro : PySem.W.mroIn Γ.K (Γ.ca c) (.type "object") = some true
  ty : ∀ T ∈ ["int", "bool", "str", "tuple", "list"], PySem.W.kitOne Γ.K (.ref (Γ.ca c)) (.type T) = some false
def isNm : Bif → String
  | .isint => "int"
  | .isbool => "bool"
  | .isstr => "str"
  | .istuple => "tuple"
  | .islist => "list"
  | _ => ""
def kdNm : Kd → String
  | .non => "NoneType"
  | .bl => "bool"
  | .int => "int"
  | .str => "str"
  | .tup => "tuple"
  | .lst => "list"
  | .own _ => ""
section
variable {X : Cx} {Γ : Gm} {W : WX} {e : Expr} {p p2 p3 pos : Pos} {ea : Env → Hh → R Vl}
theorem kit_kd {K : PySem.W.Frag} {b : Bif} {k : Kd} {r : Bool} (hb : isNm b ≠ "") (hk : ∀ c, k ≠ .own c) (e : isKd b k = some r) : PySem.W.kitOne K (.type (kdNm k)) (.type (isNm b)) = some r := by
  cases b <;> first | exact absurd rfl hb | (cases k <;> first | exact absurd rfl (hk _) | (cases Option.some.inj e; exact kit_ty (by decide +kernel)))
theorem kd_own {b : Bif} {c : Nat} {r : Bool} (hb : isNm b ≠ "") (e : isKd b (.own c) = some r) : r = false ∧ isNm b ∈ ["int", "bool", "str", "tuple", "list"] := by
  cases b <;> first | exact absurd rfl hb | (cases Option.some.inj e; exact ⟨rfl, by decide⟩)
theorem ty_kd {L m : List Addr} {H : Hp} {h : Hh} {x : Vl} {u : V} {k : Kd} (rh : RepH Γ L m h H) (r : RepV Γ L m H x u) (e : kdOf h x = some k) (hk : ∀ c, k ≠ .own c) : TyX Γ.K H u (.type (kdNm k)) := by
  unfold kdOf at e
  split at e
  · cases Option.some.inj e; cases (show u = _ from r); exact .base .non
  · cases Option.some.inj e; cases (show u = _ from r); exact .base (.bl _)
  · cases Option.some.inj e; cases (show u = _ from r); exact .base (.int _)
  · cases Option.some.inj e; cases (show u = _ from r); exact .base (.str _)
  · cases Option.some.inj e
    obtain ⟨a, us, rfl, q, _⟩ := r
    rcases q with (q | ⟨o, q⟩) | ⟨o, its, n, q, c, _⟩
    · exact .base (.tup q)
    · exact .fTuple q
    · exact .kTuple q c
  · cases Option.some.inj e
    obtain ⟨a, us, rfl, q, _⟩ := r
    exact .base (.lst q)
  · cases Option.some.inj e
    exact absurd rfl (hk _)
  · split at e
    · rename_i l hl
      cases Option.some.inj e
      obtain ⟨a, rfl, q⟩ := r
      obtain ⟨us, e2, _⟩ := rh.at_ q hl
      exact .base (.lst e2)
    · cases e
  · cases e
def rIs (Γ : Gm) (b : Bif) (w : V) : List V → Hp → VK → Prop := fun xs H Q => ∃ x L m h a v, xs = [x, w] ∧ RepH Γ L m h H ∧ RepV Γ L m H a x ∧ isV b h a = some v ∧ okV Γ L m H h v Q
theorem isV_some {b : Bif} {h : Hh} {x v : Vl} (e : isV b h x = some v) : ∃ k r, kdOf h x = some k ∧ isKd b k = some r ∧ v = .bl r := by
  unfold isV at e
  split at e
  · rename_i k hk
    split at e
    · rename_i r hr
      exact ⟨k, r, hk, hr, (Option.some.inj e).symm⟩
    · cases e
  · cases e
theorem kd_ins {h : Hh} {x : Vl} {c : Nat} (e : kdOf h x = some (.own c)) : ∃ xs, x = .ins c xs := by
  unfold kdOf at e
  split at e <;> try (cases e; done)
  · cases Option.some.inj e
    exact ⟨_, rfl⟩
  · split at e <;> cases e
theorem cb_is {b : Bif} (C : Cn X Γ W) (hb : isNm b ≠ "") (ow : ∀ c, Γ.cok c = true → OwnOk Γ c) : CallR X (.builtin "isinstance") (rIs Γ b (.ty (isNm b))) := by
  intro pins s σ H xs us Q I r hq
  obtain ⟨x, L, m, h, a, v, rfl, rh, ra, e, kk⟩ := hq
  obtain ⟨k, r', hk, hr, rfl⟩ := isV_some e
  have plain : (∀ c, k ≠ .own c) → wpAny (model X.prog X.w) X.A (call (.builtin "isinstance") us) (EP X pins σ Q) X.xe s := fun hkk => by
    have ty := ty_kd rh ra hk hkk
    rw [← C.K] at ty
    exact call_isi pins s σ H _ us Q I r ⟨x, _, _, _, r', rfl, .ty _, ty, kit_kd hb hkk hr, kk.now rh rfl⟩
  cases k with
  | own c =>
    obtain ⟨xs, rfl⟩ := kd_ins hk
    obtain ⟨a, dx, vs, us', rfl, q, _, _, _, _, f, _⟩ := ra
    have o := ow c f.1
    obtain ⟨u1, u2, rfl, r1, r2⟩ := vals2 r
    cases (show u1 = Value.ref a from r1)
    cases (show u2 = Value.type _ from r2)
    obtain ⟨us, od, _, _, J⟩ := L2.slAt_get I q
    obtain ⟨rfl, hm⟩ := kd_own hb hr
    have e := o.ty _ hm
    have c1 := o.cls.ic
    have c2 : PySem.W.plainGet Γ.K (Γ.ca c) "__class__" = true := o.cls.pg
    have c3 := o.fc
    have c4 := o.sp
    have c5 := o.tk
    have c6 := o.mro
    rw [← C.K] at e c1 c2 c3 c4 c5 c6
    exact PySem.W.kia_one (OwX.kitx_slt c1 c2 c3 c4 c5 c6) I.kIn J e (fun z => nomatch z) fun tk => ⟨.bl false, H, I.tok _, rfl, kk.now rh rfl⟩
  | _ => exact plain (by simp)
theorem s_is {b : Bif} (C : Cn X Γ W) (hb : isNm b ≠ "") (ow : ∀ c, Γ.cok c = true → OwnOk Γ c) (hg : Gl X "isinstance") (hm : Γ.mg "isinstance" = none) (hg2 : Gl X (isNm b)) (hm2 : Γ.mg (isNm b) = none) (ha : PE X e (tE Γ W ea)) (hst : isStar e = false) :
    PE X (.Call (.Name "isinstance" p) [e, .Name (isNm b) p2] [] pos) (tE Γ W fun env h => bnd (bnd (ea env h) fun x h => bnd (.ok [] h) fun xs h => .ok (x :: xs) h) fun xs h => lift (bifV b h xs) h) := by
  rw [← C.mg] at hm hm2
  have ht : PE X (.Name (isNm b) p2) (tC (.ty (isNm b))) := by
    cases b <;> first | exact absurd rfl hb | exact pe_bltn (u := .type _) hg2 hm2 (by decide +kernel) rfl (by decide) (by decide)
  refine pe_imp (pe_callB (cb_is C hb ow) hg hm PyProof.Rows.boot_isinstance (pa_cons ha (pa_cons ht pa_nil rfl) (star_cons hst)) (by decide) (by decide) (star_cons hst) rfl) fun σ H Q hq => ?_
  obtain ⟨L, m, h, env, rh, re, kk⟩ := hq
  dsimp only at kk
  rw [bnd_bnd] at kk
  refine ⟨L, m, h, env, rh, re, kk.bind fun m1 H1 x h1 u g1 rh1 rx k1 => ?_⟩
  have k1 : okG Γ W L m1 H1 σ (fun m' H' => RepV Γ L m' H') (lift (bifV b h1 [x]) h1) Q := k1
  obtain ⟨z, ez, kz⟩ := k1.lift
  have ez : isV b h1 x = some z := by
    cases b <;> first | exact absurd rfl hb | exact ez
  exact ⟨u, L, m1, h1, x, z, rfl, rh1, rx, ez, kz⟩
end
end Mi
set_option Elab.async false
set_option linter.all false
set_option maxRecDepth 100000
set_option maxHeartbeats 4000000
namespace Mi
open PySem PySem.Spec PyProof.Rows L2 HT
section
variable {prog : Program} {w : World} {A : Around} {E : Value → Shared → Prop} {s : Shared}
theorem rev_adjust (n : Nat) : Builtin.Slice.sliceAdjust none none (-1) (n : Int) = ((n : Int) - 1, -1) := by
  unfold Builtin.Slice.sliceAdjust
  simp
theorem rev_places (n : Nat) : Builtin.Slice.slicePlaces ((n : Int) - 1) (-1) (-1) = n := by
  unfold Builtin.Slice.slicePlaces
  simp only [show ¬ ((-1 : Int) > 0) by omega, if_false]
  by_cases h : (n : Int) - 1 > -1
  · rw [if_pos h]
    have : ((n : Int) - 1 - -1 - 1) / (- -1) = (n : Int) - 1 := by
      rw [show (- -1 : Int) = 1 by decide, Int.ediv_one]
      omega
    rw [this]
    omega
  · rw [if_neg h]
    omega
theorem rev_applied {sl : Addr} {vs : Value} {n : Nat} {Q : Int × Int × Nat → Shared → Prop} (hs : s.heap.IsSliceOf sl .none .none vs) (ps : IsPart vs (some (-1))) (h : Q ((n : Int) - 1, -1, n) s) :
    wpAny (model prog w) A (Builtin.Slice.sliceApplied (.ref sl) (pure (n : Int))) Q E s := by
  obtain ⟨os, hos, hcs, hds⟩ := id hs
  unfold Builtin.Slice.sliceApplied Builtin.Slice.sliceFields
  refine wpAny_bind (wpAny_bind (wpAny_field hos hds (x := .none) rfl (wpAny_bind (wpAny_field hos hds (x := .none) rfl (wpAny_bind (wpAny_field hos hds (x := vs) rfl (wpAny_pure ?_)))))))
  refine wpAny_bind (slicePart_ ps ?_)
  show wpAny _ _ (if ((-1 : Int) == 0) = true then _ else _) _ _ s
  rw [if_neg (by decide)]
  refine wpAny_bind (slicePart_none (wpAny_bind (slicePart_none (wpAny_bind (wpAny_pure ?_)))))
  show wpAny _ _ (match Builtin.Slice.sliceAdjust none none (-1) (n : Int) with | (lo, hi) => pure (lo, (-1 : Int), Builtin.Slice.slicePlaces lo hi (-1))) _ _ s
  rw [rev_adjust]
  show wpAny _ _ (pure ((n : Int) - 1, (-1 : Int), Builtin.Slice.slicePlaces ((n : Int) - 1) (-1) (-1))) _ _ s
  rw [rev_places]
  exact wpAny_pure h
theorem rev_pick (xs : Array Value) : ((List.range xs.size).filterMap fun (m : Nat) => xs[(((xs.size : Int) - 1) + (m : Int) * (-1)).toNat]?).toArray = xs.toList.reverse.toArray := by
  rw [← PySem.W.krv_pick]
  unfold slicePick
  rw [PySem.W.krv_bounds]
  show _ = ((sliceRange ((xs.size : Int) - 1) (-1) (-1)).filterMap (xs[·]?)).toArray
  rw [PySem.W.krv_sliceRange, List.filterMap_map]
  congr 2
  funext m
  have e1 : (((xs.size : Int) - 1) + (m : Int) * (-1)).toNat = xs.size - 1 - m := by omega
  rw [e1]
  rfl
theorem rev_tuple {t sl : Addr} {items : Array Value} {vs : Value} {Q : Value → Shared → Prop} (ht : IsTup s.heap t items) (hs : s.heap.IsSliceOf sl .none .none vs) (ps : IsPart vs (some (-1)))
    (h : Q (.ref s.heap.objs.size) { s with heap := s.heap.push { cls := .type "tuple", data := .seq items.toList.reverse.toArray } }) (hsz : items.size ≤ sizeLine) : wpAny (model prog w) A (getItem (.ref t) (.ref sl)) Q E s := by
  have htake : sizeOk (.seq items.toList.reverse.toArray) := by
    show items.toList.reverse.toArray.size ≤ sizeLine
    rw [List.size_toArray, List.length_reverse, Array.length_toList]
    exact hsz
  obtain ⟨os, hos, hcs, hds⟩ := id hs
  have hTs : s.TypeIs (.ref sl) "slice" := ⟨os, hos, hcs⟩
  unfold getItem
  try with_reducible refine wpAny_holding ?_
  first | refine wpAny_bind (wpAny_pure ?_) | skip
  refine wpAny_bind (wpAny_sequenceKey ht.typeIs (by decide) ?_)
  refine wpAny_bind (wpAny_callSpecial?_slot (name := Str.ofString "__getitem__") ht.typeIs PyProof.Rows.slot_tuple_getitem
    (wpAny_call_entry PyProof.Rows.slot_tuple_getitem ht.typeIs entry_tuple_getitem ?_ (args_tuple_getitem _ _)))
  show wpAny _ _ (Builtin.Tuple.tupleItemsOf (.ref t) >>= _) _ _ s
  refine wpAny_bind (tupleItemsOf_ ht ?_)
  refine wpAny_bind (wpAny_typeOf hTs ?_)
  rw [if_pos (by decide)]
  refine wpAny_bind (rev_applied hs ps ?_)
  have hno : ¬ ((((items.size : Int) - 1) == 0 && (-1 : Int) == 1 && items.size == items.size) = true) := by
    rw [show ((-1 : Int) == 1) = false by decide, Bool.and_false, Bool.false_and]
    exact Bool.false_ne_true
  show wpAny _ _ (if (((items.size : Int) - 1) == 0 && (-1 : Int) == 1 && items.size == items.size) = true then _ else _) _ _ s
  rw [if_neg hno, rev_pick]
  first
    | exact wpAny_bind (m := Builtin.Tuple.tupleExact _) (wpAny_newObj_type (wpAny_pure ⟨_, rfl, wpAny_pure h⟩) htake)
    | exact wpAny_bind (m := Builtin.Tuple.tupleExact _) (wpAny_newObj_type (wpAny_bind (wpAny_pure (wpAny_pure ⟨_, rfl, wpAny_pure h⟩))) htake)
    | exact wpAny_bind (wpAny_bind (m := Builtin.Tuple.tupleExact _) (wpAny_newObj_type (wpAny_pure (wpAny_pure ⟨_, rfl, wpAny_pure h⟩)) htake))
    | exact wpAny_bind (wpAny_bind (m := Builtin.Tuple.tupleExact _) (wpAny_newObj_type (wpAny_pure ⟨_, rfl, wpAny_pure h⟩) htake))
end
section
variable {X : Cx} {Γ : Gm} {W : WX} {e a b : Expr} {pos p p1 p2 p3 : Pos} {ea eb : Env → Hh → R Vl}
def tRevT (K : PySem.W.Frag) (te : TE) : TE := fun σ H Q => te σ H fun x H1 => ∃ a xs, x = .ref a ∧ SqT K H1 a xs ∧ ∀ p, H1 p = none → Q (.ref p) (upd H1 p (.tup xs.reverse))
theorem pe_revT {te : TE} {k : Nat} (he : PE X e te) : PE X (.Subscript e (.Slice none none (some (.UnaryOp .USub (.Constant (.int 1) k p1) p2)) p3) pos) (tRevT X.K te) := by
  refine ⟨fun pins s σ H Q I h => ?_⟩
  refine Subscript_ (thn (he.run pins s σ H _ I h) fun v s1 ⟨x, H1, I1, r1, q1⟩ => ?_)
  obtain ⟨a, xs, ex, hx, q⟩ := q1
  subst ex
  cases r1
  have hst : PO X (some (.UnaryOp .USub (.Constant (.int 1) k p1) p2)) (tPart (tUn (rU fun i => .int (-i)) (tC (.int 1)))) := po_some (pe_un un_neg pe_int)
  refine wpAny_Slice (thn (po_none.run pins s1 σ H1 (fun o H2 => o = none ∧ H2 = H1) I1 ⟨rfl, rfl⟩) fun vl s2 ⟨l, H2, I2, pl, el, e2⟩ => ?_)
  subst el e2
  refine thn (po_none.run pins s2 σ H2 (fun o H3 => o = none ∧ H3 = H2) I2 ⟨rfl, rfl⟩) fun vu s3 ⟨u, H3, I3, pu, eu, e3⟩ => ?_
  subst eu e3
  refine thn (hst.run pins s3 σ H3 (fun o H4 => o = some (-1) ∧ H4 = H3) I3 ⟨1, rfl, -1, rfl, rfl, rfl⟩) fun vs s4 ⟨o, H4, I4, ps, eo, e4⟩ => ?_
  subst eo e4
  cases pl
  cases pu
  have I5 : Inv X pins σ H4 { s4 with heap := s4.heap.push { cls := .type "slice", data := .fields #[.none, .none, vs] } } := I4.kept (t' := s4.toks) fun b ob q => Heap.get?_push_of_some _ q
  obtain ⟨its, r, ht, hz⟩ := I5.tuple hx
  have hlen := r.length
  show wpAny (model X.prog X.w) X.A (subscriptTail e (.Slice none none (some (.UnaryOp .USub (.Constant (.int 1) k p1) p2)) p3) (.ref a) (.ref s4.heap.objs.size)) (EP X pins σ Q) X.xe { s4 with heap := s4.heap.push { cls := .type "slice", data := .fields #[.none, .none, vs] } }
  refine tail_any (ops := [.ref a, .ref s4.heap.objs.size]) ht.typeIs PyProof.Rows.slot_tuple_getitem.lookup ?_ (by with_unfolding_all rfl)
  refine rev_tuple ht (Heap.IsSliceOf.new _ .none .none vs) ps ?_ (by rw [List.size_toArray]; omega)
  refine ⟨.ref _, _, I5.laid (t' := s4.toks) (o := .tup xs.reverse) (fun b ob q => Heap.get?_push_of_some _ q) (Nat.le_refl _) ?_, rfl, q _ (I5.hok.fresh (Nat.le_refl _))⟩
  exact ⟨by rw [List.length_reverse]; exact hz, _, r.reverse, _, Heap.get?_push_size _ rfl, rfl, _, rfl⟩
theorem RepL.reverse {L m : List Addr} {H : Hp} : ∀ {xs : List Vl} {us : List V}, RepL Γ L m H xs us → RepL Γ L m H xs.reverse us.reverse
  | [], [], _ => trivial
  | x :: xs, u :: us, h => by
    rw [List.reverse_cons, List.reverse_cons]
    exact (RepL.reverse h.2).append ⟨h.1, trivial⟩
  | [], _ :: _, h => h.elim
  | _ :: _, [], h => h.elim
theorem s_rev {k : Nat} (C : Cn X Γ W) (ha : PE X e (tE Γ W ea)) : PE X (.Subscript e (.Slice none none (some (.UnaryOp .USub (.Constant (.int 1) k p1) p2)) p3) pos) (tE Γ W fun env h => bnd (ea env h) fun x h => lift (revW h x) h) := by
  refine ⟨fun pins s σ H Q I hq => ?_⟩
  obtain ⟨L, m, h, env, rh, re, kk⟩ := hq
  dsimp only at kk
  have asL : (∀ m1 H1 x h1 u, Grow m H m1 H1 → RepH Γ L m1 h1 H1 → RepV Γ L m1 H1 x u → okG Γ W L m1 H1 σ (fun m' H' => RepV Γ L m' H') (lift (revW h1 x) h1) Q → ∃ a xs, u = .ref a ∧ SqL X.K H1 a xs ∧ ∀ p, H1 p = none → Q (.ref p) (upd H1 p (.lst xs.reverse))) → wpAny (model X.prog X.w) X.A (eval (.Subscript e (.Slice none none (some (.UnaryOp .USub (.Constant (.int 1) k p1) p2)) p3) pos) X.env) (EP X pins σ Q) X.xe s := fun st =>
    (pe_revL ha).run pins s σ H Q I ⟨L, m, h, env, rh, re, kk.bind st⟩
  have asT : (∀ m1 H1 x h1 u, Grow m H m1 H1 → RepH Γ L m1 h1 H1 → RepV Γ L m1 H1 x u → okG Γ W L m1 H1 σ (fun m' H' => RepV Γ L m' H') (lift (revW h1 x) h1) Q → ∃ a xs, u = .ref a ∧ SqT X.K H1 a xs ∧ ∀ p, H1 p = none → Q (.ref p) (upd H1 p (.tup xs.reverse))) → wpAny (model X.prog X.w) X.A (eval (.Subscript e (.Slice none none (some (.UnaryOp .USub (.Constant (.int 1) k p1) p2)) p3) pos) X.env) (EP X pins σ Q) X.xe s := fun st =>
    (pe_revT ha).run pins s σ H Q I ⟨L, m, h, env, rh, re, kk.bind st⟩
  by_cases hT : ∃ xs h1, ea env h = .ok (.tup xs) h1
  · obtain ⟨xs, h1, e1⟩ := hT
    rw [e1] at kk
    refine (pe_revT ha).run pins s σ H Q I ⟨L, m, h, env, rh, re, ?_⟩
    rw [e1]
    intro m1 H1 u g1 rh1 rx
    obtain ⟨a, us, rfl, q, r⟩ := rx
    have k1 : okG Γ W L m1 H1 σ (fun m' H' => RepV Γ L m' H') (.ok (.tup xs.reverse) h1) Q := okG.later kk g1 rh1
    rw [C.K]
    exact ⟨a, us, rfl, q, fun p hp => okV.newT k1 rh1 hp r.reverse⟩
  · refine (pe_revL ha).run pins s σ H Q I ⟨L, m, h, env, rh, re, ?_⟩
    cases e1 : ea env h with
    | exc c p h1 =>
      rw [e1] at kk
      exact kk
    | bad =>
      rw [e1] at kk
      exact kk
    | ok x h1 =>
      rw [e1] at kk
      intro m1 H1 u g1 rh1 rx
      have k1 : okG Γ W L m1 H1 σ (fun m' H' => RepV Γ L m' H') (lift (revW h1 x) h1) Q := okG.later kk g1 rh1
      obtain ⟨z, ez, kz⟩ := k1.lift
      rw [C.K]
      unfold revW at ez
      split at ez
      · rename_i xs
        exact absurd ⟨xs, h1, e1⟩ hT
      · split at ez
        · rename_i xs hx
          cases Option.some.inj ez
          split at hx
          · rename_i ys
            cases Option.some.inj hx
            obtain ⟨a, us, rfl, q, r⟩ := rx
            exact ⟨a, us, rfl, (scr_sq ⟨_, rh1⟩ q).1, fun p hp => okV.newL kz rh1 hp r.reverse⟩
          · obtain ⟨a, us, rfl, q, r⟩ := lstOf_rep rh1 rx hx
            exact ⟨a, us, rfl, SqL.of q, fun p hp => okV.newL kz rh1 hp r.reverse⟩
        · cases ez
theorem RepH.dnew {L m : List Addr} {H : Hp} {h : Hh} {p : Addr} (r : RepH Γ L m h H) (hp : H p = none) : RepH Γ L (m ++ [p]) (h ++ [.dct []]) (upd H p (.dK [])) where
  len := by rw [List.length_append, List.length_append, r.len]; rfl
  nd := by
    rw [List.nodup_append]
    refine ⟨r.nd, by simp, fun a ha b hb z => ?_⟩
    rw [List.mem_singleton.mp hb] at z
    exact (r.out hp).1 (z ▸ ha)
  ap := fun a ha => by
    rcases List.mem_append.mp ha with ha | ha
    · exact r.ap a ha
    · rw [List.mem_singleton.mp ha]
      exact (r.out hp).2
  ob := fun i a o e1 e2 => by
    by_cases hi : i < m.length
    · rw [List.getElem?_append_left hi] at e1
      rw [List.getElem?_append_left (by rw [← r.len]; exact hi)] at e2
      have x := r.ob i a o e1 e2
      obtain ⟨v, hv, _⟩ := x.there
      exact x.grow (Grow.alloc hp) (upd_ne (ne_of_none hv hp))
    · have hm : i = m.length := by
        have := (List.getElem?_eq_some_iff.mp e1).1
        rw [List.length_append, List.length_singleton] at this
        omega
      subst hm
      rw [List.getElem?_append_right (Nat.le_refl _), Nat.sub_self] at e1
      rw [r.len, List.getElem?_append_right (Nat.le_refl _), Nat.sub_self] at e2
      cases e1
      cases e2
      exact ⟨[], upd_same, trivial⟩
  res := fun a ha => by
    obtain ⟨us, e⟩ := r.res a ha
    exact ⟨us, by rw [upd_ne (ne_of_none e hp)]; exact e⟩
theorem s_dnew : PE X (.Dict [] [] pos) (tE Γ W fun _ h => .ok (.ref h.length) (h ++ [.dct []])) := by
  refine pe_imp pe_dnewK fun σ H Q hq => ?_
  obtain ⟨L, m, h, env, rh, re, k⟩ := hq
  intro p hp
  refine k (m ++ [p]) _ (.ref p) (Grow.alloc hp) (rh.dnew hp) ⟨p, rfl, ?_⟩
  rw [← rh.len, List.getElem?_append_right (Nat.le_refl _), Nat.sub_self]
  rfl
theorem CallR.or {f : Value} {r r' : List V → Hp → VK → Prop} (h : CallR X f r) (h' : CallR X f r') : CallR X f (fun xs H Q => r xs H Q ∨ r' xs H Q) := by
  intro pins s σ H xs us Q I rr q
  rcases q with q | q
  · exact h pins s σ H xs us Q I rr q
  · exact h' pins s σ H xs us Q I rr q
theorem keys_rep {L m : List Addr} {H : Hp} : ∀ {kvs : List (Vl × Vl)} {us : List (Key × V)} {ks : List Int}, RepKs Γ L m H kvs us → intsOf (kvs.map (·.1)) = some ks → us.map (·.1) = ks.map Sum.inl
  | [], [], ks, _, e => by cases Option.some.inj e; rfl
  | (a, x) :: r, (k, u) :: us, ks, h, e => by
    obtain ⟨h1, _, h3⟩ := h
    cases a with
    | int i =>
      have e' : (match intsOf (r.map (·.1)) with | some l => some (i :: l) | none => none) = some ks := e
      split at e'
      · rename_i l hl
        cases Option.some.inj e'
        rw [List.map_cons, List.map_cons, keys_rep h3 hl]
        cases (show k = .inl i from h1)
        rfl
      · cases e'
    | _ => cases e
  | [], _ :: _, _, h, _ => h.elim
  | _ :: _, [], _, h, _ => h.elim
def srtR2 (rev : Bool) (x : Vl) (h : Hh) : R (List Vl) := match lstOf h x with
  | some l => match intsOf l with
    | some l => match rev with
      | true => .ok ((sortI l).reverse.map .int) h
      | false => .ok ((sortI l).map .int) h
    | none => .bad
  | none => match dkeys h x with
    | some ks => match rev with
      | true => .bad
      | false => match decide (ks.length < 64) with
        | true => .ok ((sortI ks).map .int) h
        | false => .bad
    | none => .bad
theorem f_sorted2 (C : Cn X Γ W) (hg : Gl X "sorted") (hm : Γ.mg "sorted" = none) (ha : PE X e (tE Γ W ea)) (hst : isStar e = false) :
    PE X (.Call (.Name "sorted" p) [e] [] pos) (tF Γ W fun env h => bnd (ea env h) (srtR2 false)) := by
  rw [← C.mg] at hm
  refine pe_imp (pe_callB (CallR.or (cb_sorted (Γ := Γ)) (call_sortedDI C.calm)) hg hm PyProof.Rows.boot_sorted (pa_cons ha pa_nil (star_cons hst)) (by decide) (by decide) (star_cons hst) rfl) fun σ H Q hq => ?_
  obtain ⟨L, m, h, env, rh, re, kk⟩ := hq
  refine ⟨L, m, h, env, rh, re, okF.bind rh kk fun m1 H1 x h1 u g1 rh1 rx k1 => ?_⟩
  unfold srtR2 at k1
  split at k1
  · rename_i l hl
    split at k1
    · rename_i l2 hl2
      exact .inl ⟨L, m1, h1, x, u, l, l2, rfl, rh1, rx, hl, hl2, k1⟩
    · exact k1.elim
  · split at k1
    · rename_i ks hk
      dsimp only at k1
      split at k1
      · rename_i hd
        unfold dkeys at hk
        split at hk
        · rename_i n
          obtain ⟨a, rfl, q⟩ := rx
          split at hk
          · rename_i kvs hkv
            obtain ⟨us, e2, rr⟩ := rh1.at_ q hkv
            refine .inr ⟨a, us, ks, rfl, Rd.of e2, keys_rep rr hk, of_decide_eq_true hd, fun ys p pm so hp => ?_⟩
            have := sortI_one pm so
            subst this
            exact okN.new k1 rh1 hp ints_map
          · cases hk
        · cases hk
      · exact k1.elim
    · exact k1.elim
theorem f_sortedR2 {j : Nat} {p2 p3 : Pos} (C : Cn X Γ W) (hg : Gl X "sorted") (hm : Γ.mg "sorted" = none) (ha : PE X e (tE Γ W ea)) (hst : isStar e = false) :
    PE X (.Call (.Name "sorted" p) [e] [⟨some "reverse", .Constant (.bool true) j p2, p3⟩] pos) (tF Γ W fun env h => bnd (ea env h) (srtR2 true)) := by
  refine pe_imp (f_sortedR C hg hm ha hst) fun σ H Q hq => ?_
  obtain ⟨L, m, h, env, rh, re, kk⟩ := hq
  refine ⟨L, m, h, env, rh, re, ?_⟩
  show okF Γ W L m H σ (bnd (ea env h) (srtR true)) Q
  dsimp only at kk
  cases hr : ea env h with
  | bad => rw [hr] at kk; exact kk
  | exc c p h1 => rw [hr] at kk; exact kk
  | ok x h1 =>
    rw [hr] at kk
    replace kk : okF Γ W L m H σ (srtR2 true x h1) Q := kk
    show okF Γ W L m H σ (srtR true x h1) Q
    unfold srtR2 at kk
    unfold srtR
    split at kk
    · rename_i l hl
      first | exact kk | (rw [hl]; exact kk)
    · split at kk
      · exact kk.elim
      · exact kk.elim
theorem rgV_rep {L m : List Addr} {H : Hp} {a b : Int} : RepL Γ L m H (rangeL (b - a).toNat a 1) (rgV a b) := by
  refine RepL.of_get (by rw [rangeL_length, rgV_length]) fun i x v h1 h2 => ?_
  have hi : i < (b - a).toNat := by
    have := (List.getElem?_eq_some_iff.mp h1).1
    rwa [rangeL_length] at this
  rw [rangeL_get _ _ _ _ hi] at h1
  cases h1
  unfold rgV at h2
  rw [List.getElem?_map, List.getElem?_range hi] at h2
  cases h2
  show V.int _ = V.int _
  rw [Int.mul_one]
theorem f_lrg1 {e1 : Expr} {p2 pos2 : Pos} (C : Cn X Γ W) (hg : Gl X "list") (hm : Γ.mg "list" = none) (hg2 : Gl X "range") (hm2 : Γ.mg "range" = none) (ha : PE X a (tE Γ W ea)) (hst : isStar a = false) :
    PE X (.Call (.Name "list" p) [.Call (.Name "range" p2) [a] [] pos2] [] pos) (tF Γ W fun env h => bnd (bnd (ea env h) fun x h => bnd (.ok [] h) fun xs h => .ok (x :: xs) h) fun xs h => lift (rngL xs) h) := by
  rw [← C.mg] at hm hm2
  refine pe_imp (pe_listRg C.calm hg hm (prg_1 hg2 hm2 ha (star_cons hst)) rfl) fun σ H Q hq => ?_
  obtain ⟨L, m, h, env, rh, re, k⟩ := hq
  dsimp only at k
  rw [bnd_bnd] at k
  refine ⟨L, m, h, env, rh, re, okF.bind rh k fun m1 H1 x h1 u g1 rh1 rx k1 => ?_⟩
  replace k1 : okF Γ W L m1 H1 σ (lift (rngL [x]) h1) Q := k1
  obtain ⟨z, ez, kz⟩ := k1.lift
  cases x with
  | int n =>
    cases (show u = .int n from rx)
    replace ez : (if n.natAbs < 1000000 then some (rangeL n.toNat 0 1) else none) = some z := ez
    split at ez
    · rename_i hn
      cases Option.some.inj ez
      refine ⟨n, rfl, ⟨by omega, by omega, by omega, by omega, by omega⟩, fun q hq => okN.new kz rh1 hq ?_⟩
      have := rgV_rep (Γ := Γ) (L := L) (m := m1) (H := H1) (a := 0) (b := n)
      rw [Int.sub_zero] at this
      exact this
    · cases ez
  | _ => cases ez
theorem f_lrg2 {p2 pos2 : Pos} (C : Cn X Γ W) (hg : Gl X "list") (hm : Γ.mg "list" = none) (hg2 : Gl X "range") (hm2 : Γ.mg "range" = none) (ha : PE X a (tE Γ W ea)) (hb : PE X b (tE Γ W eb)) (hst : noStars [a, b] = true) :
    PE X (.Call (.Name "list" p) [.Call (.Name "range" p2) [a, b] [] pos2] [] pos) (tF Γ W fun env h => bnd (bnd (ea env h) fun x h => bnd (bnd (eb env h) fun x h => bnd (.ok [] h) fun xs h => .ok (x :: xs) h) fun xs h => .ok (x :: xs) h) fun xs h => lift (rngL xs) h) := by
  rw [← C.mg] at hm hm2
  obtain ⟨s1, s2⟩ := noStars_cons hst
  obtain ⟨s3, s4⟩ := noStars_cons s2
  refine pe_imp (pe_listRg C.calm hg hm (prg_2 hg2 hm2 ha hb (star_cons s1) (star_cons s3) (noStars_any s2)) rfl) fun σ H Q hq => ?_
  obtain ⟨L, m, h, env, rh, re, k⟩ := hq
  dsimp only at k
  rw [bnd_bnd] at k
  refine ⟨L, m, h, env, rh, re, okF.bind rh k fun m1 H1 x h1 u g1 rh1 rx k1 => ?_⟩
  rw [bnd_bnd, bnd_bnd] at k1
  refine ⟨L, m1, h1, env, rh1, re.grow g1, okF.bind rh1 k1 fun m2 H2 y h2 v g2 rh2 ry k2 => ?_⟩
  replace k2 : okF Γ W L m2 H2 σ (lift (rngL [x, y]) h2) Q := k2
  obtain ⟨z, ez, kz⟩ := k2.lift
  unfold rngL at ez
  split at ez
  · rename_i z
    cases z
  · rename_i i j z
    cases z
    cases (show u = .int _ from rx)
    cases (show v = .int _ from ry)
    split at ez
    · rename_i h1
      split at ez
      · rename_i h2
        cases Option.some.inj ez
        exact ⟨_, _, rfl, rfl, ⟨by omega, by omega, by omega, by omega, by omega⟩, fun q hq => okN.new kz rh2 hq rgV_rep⟩
      · cases ez
    · cases ez
  · cases ez
def trgR (xs : List Vl) (h : Hh) : R Vl := match rngL xs with
  | some l => .ok (.tup l) h
  | none => .bad
theorem s_trg1 {p2 pos2 : Pos} (C : Cn X Γ W) (hg : Gl X "tuple") (hm : Γ.mg "tuple" = none) (hg2 : Gl X "range") (hm2 : Γ.mg "range" = none) (ha : PE X a (tE Γ W ea)) (hst : isStar a = false) :
    PE X (.Call (.Name "tuple" p) [.Call (.Name "range" p2) [a] [] pos2] [] pos) (tE Γ W fun env h => bnd (bnd (ea env h) fun x h => bnd (.ok [] h) fun xs h => .ok (x :: xs) h) trgR) := by
  rw [← C.mg] at hm hm2
  refine pe_imp (pe_tupRg C.calm hg hm (prg_1 hg2 hm2 ha (star_cons hst)) rfl) fun σ H Q hq => ?_
  obtain ⟨L, m, h, env, rh, re, k⟩ := hq
  dsimp only at k
  rw [bnd_bnd] at k
  refine ⟨L, m, h, env, rh, re, k.bind fun m1 H1 x h1 u g1 rh1 rx k1 => ?_⟩
  replace k1 : okG Γ W L m1 H1 σ (fun m' H' => RepV Γ L m' H') (trgR [x] h1) Q := k1
  unfold trgR at k1
  split at k1
  · rename_i z ez
    cases x with
    | int n =>
      cases (show u = .int n from rx)
      replace ez : (if n.natAbs < 1000000 then some (rangeL n.toNat 0 1) else none) = some z := ez
      split at ez
      · rename_i hn
        cases Option.some.inj ez
        refine ⟨n, rfl, ⟨by omega, by omega, by omega, by omega, by omega⟩, fun q hq => okV.newT k1 rh1 hq ?_⟩
        have := rgV_rep (Γ := Γ) (L := L) (m := m1) (H := H1) (a := 0) (b := n)
        rw [Int.sub_zero] at this
        exact this
      · cases ez
    | _ => cases ez
  · exact k1.elim
end
end Mi
set_option Elab.async false
set_option linter.all false
set_option maxRecDepth 100000
set_option maxHeartbeats 4000000
namespace Mi
open PySem PySem.Spec PyProof.Rows L2
structure Kl (Γ : Gm) (G : GT) (ats : List (Str × Nat)) : Prop where
  sl : ∀ c x f i, ats.lookup x = some f → G.at_ c f = some (.inl i) → L2.SCls Γ.K (Γ.ca c) ∧ ∃ p, L2.Slt Γ.K (Γ.ca c) x i p
  pr : ∀ c x f g, ats.lookup x = some f → G.at_ c f = some (.inr g) → L2.SCls Γ.K (Γ.ca c) ∧ ∃ p rest, PySem.W.findIn Γ.K (.ref (Γ.ca c)) x = some (some (.ref p)) ∧
    PySem.W.specialIn Γ.K (.ref p) "__get__" = some (some (.builtin "property.__get__")) ∧ PySem.W.takesIn Γ.K (.ref p) = some true ∧ PySem.W.recIn Γ.K p "property" = some (.ref (Γ.fa g) :: rest)
structure KlMk (Γ : Gm) (G : GT) (c : Nat) : Prop where
  made : ∀ f k, G.init c = some (f, k) → L2.Mk Γ.K (Γ.ca c) (Γ.fa f)
  ok : Γ.cok c = true
section
variable {X : Cx} {Γ : Gm} {W : WX} {G : GT} {cf : CF} {k f c : Nat} {x : Str} {p pos apos : Pos} {e : Expr} {es : List Expr} {el : Env → Hh → R (List Vl)} {ea : Env → Hh → R Vl}
theorem okG.noX {α β : Type} {W' : WX} {L m : List Addr} {H : Hp} {σ σ' : L2.St} {rel : List Addr → Hp → α → β → Prop} {r : R α} {Q : β → Hp → Prop} (k : okG Γ W L m H σ rel (noX r) Q) : okG Γ W' L m H σ' rel r Q := by
  cases r with
  | ok a h => exact k
  | exc c p h => exact k.elim
  | bad => exact k.elim
theorem prop_at {L m : List Addr} {h : Hh} {H : Hp} {a dx q : Addr} {g : Nat} {vs : List (Option V)} {rest : List Value} {v : Vl} {b : Bool} {pins : List (Addr × Obj)} {σ : L2.St} {s : Shared} {Q : VK} (C : Cn X Γ W) (F : FnI Γ cf (k - 1) g) (hr : Room k X.A) (hk : 1 ≤ k ∨ ∀ f xs h, cf f xs h = .bad) (I : Inv X pins σ H s)
    (hs : SlAt H a (Γ.ca c) dx vs) (kc : L2.SCls Γ.K (Γ.ca c)) (k1 : PySem.W.findIn Γ.K (.ref (Γ.ca c)) x = some (some (.ref q))) (k2 : PySem.W.specialIn Γ.K (.ref q) "__get__" = some (some (.builtin "property.__get__"))) (k3 : PySem.W.takesIn Γ.K (.ref q) = some true)
    (k4 : PySem.W.recIn Γ.K q "property" = some (.ref (Γ.fa g) :: rest)) (hp : PySem.W.plainGet Γ.K (Γ.ca c) x = true)
    (rh : RepH Γ L m h H) (rv : RepV Γ L m H v (.ref a)) (kk : okG Γ W L m H σ (fun m' H' => RepV Γ L m' H') (noX (cf g [v] h)) Q) : wpAny (model X.prog X.w) X.A (getAttr (.ref a) x b) (EP X pins σ Q) X.xe s := by
  obtain ⟨us, od, _, _, J⟩ := L2.slAt_get I hs
  have hk : 1 ≤ k := by
    rcases hk with hk | hk
    · exact hk
    · rw [hk] at kk
      exact kk.elim
  obtain ⟨fd, ps, F', hb⟩ := F.ok
  rw [← C.prog, ← C.w, ← C.K, ← C.mg, ← C.base] at F'
  rw [← C.K] at hb kc k1 k2 k3 k4 hp
  have FR := FnOk.raw F' hb .nil
  have J1 : Inv X pins σ H { s with toks := s.toks + 1 } := I.tok (s.toks + 1)
  have hr1 : Room (k - 1) X.A.in1 := by
    have : Room (k - 1 + 1) X.A := hr.mono (by omega)
    exact this.in1
  refine PySem.W.get_bind I.kIn J (PySem.W.plainGet_of hp).1 (PySem.W.findObj_data kc.ic k1 k2 k3) (PySem.W.plainGet_of hp).2 (wpAny_call (PySem.W.prop_get (s := { s with toks := s.toks + 1 }) I.kIn k4 ?_))
  refine codeAny_mono (FR X.A.in1 X.stack { s with toks := s.toks + 1 } H [.ref a] [.ref a] Q (fun _ _ _ => False) hr1 J1.env0.in1 (.cons rfl .nil) ⟨L, m, h, [v], rh, ⟨rv, trivial⟩, kk.noX⟩) fun r s' z => ?_
  cases r with
  | error e =>
    obtain ⟨_, _, _, _, _, _, _, _, _, _, _, _, z⟩ := z
    exact z.elim
  | ok fl =>
    cases fl with
    | ret u =>
      obtain ⟨v2, H2, I2, r2, q2⟩ := J1.after z
      exact wpAny_of_eq (PySem.W.handedOut_of (handed_of r2)) ⟨v2, H2, I2, r2, q2⟩
    | next => exact z.elim
    | brk => exact z.elim
    | cont => exact z.elim
theorem s_attr {ats : List (Str × Nat)} (C : Cn X Γ W) (T : Kl Γ G ats) (F : ∀ g, FnI Γ cf (k - 1) g) (hr : Room k X.A) (hk : 1 ≤ k ∨ ∀ f xs h, cf f xs h = .bad) (hx : ats.lookup x = some f) (he : PE X e (tE Γ W ea)) (hb : attributeBase e x X.env (eval e X.env) = eval e X.env) :
    PE X (.Attribute e x pos) (tE Γ W fun env h => bnd (ea env h) (attrR G cf f)) := by
  refine ⟨fun pins s σ H Q I hq => ?_⟩
  obtain ⟨L, m, h, env, rh, re, kk⟩ := hq
  refine attr_of hb (thn (he.run pins s σ H (fun v H1 => ∃ m1 h1 y, RepH Γ L m1 h1 H1 ∧ RepV Γ L m1 H1 y v ∧ okG Γ W L m1 H1 σ (fun m' H' => RepV Γ L m' H') (attrR G cf f y h1) Q) I ⟨L, m, h, env, rh, re, kk.bind fun m1 H1 y h1 u g1 rh1 ry k1 => ⟨m1, h1, y, rh1, ry, k1⟩⟩) fun u s1 ⟨v, H1, I1, r1, m1, h1, y, rh1, ry, k1⟩ => ?_)
  unfold attrR at k1
  split at k1
  · rename_i c xs
    obtain ⟨a, dx, vs, us, rfl, q, n1, n2, n3, n4, fo, rl⟩ := ry
    have e1 : u = Value.ref a := r1
    subst e1
    split at k1
    · rename_i i hi
      obtain ⟨kc, p', ks⟩ := T.sl c x f i hx hi
      rw [← C.K] at kc ks
      cases hv : xs[i]? with
      | none => rw [hv] at k1; exact k1.elim
      | some z =>
        rw [hv] at k1
        obtain ⟨w, e2, e3⟩ := rl.get hv
        exact getslot_ok I1 q kc ks (fo.2 i w e2) fun u' s2 I2 ru => ⟨w, H1, I2, ru, k1 m1 H1 w (Grow.refl _ _) rh1 e3⟩
    · rename_i g hi
      obtain ⟨kc, p', rest, j1, j2, j3, j4⟩ := T.pr c x f g hx hi
      exact prop_at C (F g) hr hk I1 q kc j1 j2 j3 j4 kc.pg rh1 (v := .ins c xs) ⟨a, dx, vs, us, rfl, q, n1, n2, n3, n4, fo, rl⟩ k1
    · exact k1.elim
  · rename_i n
    obtain ⟨a, rfl, q⟩ := ry
    have e1 : u = Value.ref a := r1
    subst e1
    split at k1
    · rename_i c xs hn
      obtain ⟨dx, vs, qs, n1, n2, fs⟩ := rh1.at_ q hn
      split at k1
      · rename_i i hi
        obtain ⟨kc, p', ks⟩ := T.sl c x f i hx hi
        rw [← C.K] at kc ks
        split at k1
        · rename_i z hz
          obtain ⟨w, e2, e3⟩ := fs i z hz
          exact getslot_ok I1 qs kc ks e2 fun u' s2 I2 ru => ⟨w, H1, I2, ru, k1 m1 H1 w (Grow.refl _ _) rh1 e3⟩
        · exact k1.elim
      · rename_i g hi
        obtain ⟨kc, p', rest, j1, j2, j3, j4⟩ := T.pr c x f g hx hi
        exact prop_at C (F g) hr hk I1 qs kc j1 j2 j3 j4 kc.pg rh1 (v := .ref n) ⟨a, rfl, q⟩ k1
      · exact k1.elim
    · exact k1.elim
  · exact k1.elim
theorem slots_us {L m : List Addr} {H : Hp} {vs : List (Option V)} : ∀ {xs : List (Option Vl)} {l : List Vl} {j : Nat}, allSome xs = some l → (∀ (i : Nat) (x : Vl), xs[i]? = some (some x) → ∃ u, vs[j + i]? = some (some u) ∧ RepV Γ L m H x u) →
    ∃ us, RepL Γ L m H l us ∧ ∀ (i : Nat) (u : V), us[i]? = some u → vs[j + i]? = some (some u)
  | [], l, j, e, _ => by
    cases Option.some.inj e
    exact ⟨[], trivial, fun i u z => by simp at z⟩
  | none :: r, l, j, e, _ => by cases e
  | some x :: r, l, j, e, h => by
    unfold allSome at e
    split at e
    · rename_i l' hl
      cases Option.some.inj e
      obtain ⟨u, h1, h2⟩ := h 0 x rfl
      obtain ⟨us, h3, h4⟩ := slots_us (xs := r) (l := l') (j := j + 1) hl fun i y hy => by
        obtain ⟨w, a, b⟩ := h (i + 1) y (by simpa using hy)
        exact ⟨w, by rw [show j + 1 + i = j + (i + 1) by omega]; exact a, b⟩
      refine ⟨u :: us, ⟨h2, h3⟩, fun i w hw => ?_⟩
      cases i with
      | zero =>
        cases Option.some.inj hw
        exact h1
      | succ i =>
        have := h4 i w (by simpa using hw)
        rw [show j + (i + 1) = j + 1 + i by omega]
        exact this
    · cases e
theorem Grow.made {m : List Addr} {H : Hp} {x dx C : Addr} (hx : H x = none) (hd : H dx = none) : Grow m H (m ++ [x]) (upd (upd H dx (.own x)) x (.ins C dx [])) where
  ext := ⟨[x], rfl, fun a h => by rw [List.mem_singleton.mp h]; exact hx⟩
  keep := fun a u e _ => by rw [upd_ne (ne_of_none e hx), upd_ne (ne_of_none e hd)]; exact e
  tup := fun a u e => by rw [upd_ne (ne_of_none e hx), upd_ne (ne_of_none e hd)]; exact e
  frz := fun a u v e => by rw [upd_ne (ne_of_none e hx), upd_ne (ne_of_none e hd)]; exact e
  own := fun a u e => by rw [upd_ne (ne_of_none e hx), upd_ne (ne_of_none e hd)]; exact e
theorem RepH.made {L m : List Addr} {h : Hh} {H : Hp} {x dx : Addr} {n : Nat} (r : RepH Γ L m h H) (hx : H x = none) (hd : H dx = none) (hn : dx ≠ x) : RepH Γ L (m ++ [x]) (h ++ [.ins c (List.replicate n none)]) (upd (upd H dx (.own x)) x (.ins (Γ.ca c) dx [])) where
  len := by rw [List.length_append, List.length_append, r.len]; rfl
  nd := by
    rw [List.nodup_append]
    refine ⟨r.nd, by simp, fun a ha b hb z => ?_⟩
    rw [List.mem_singleton.mp hb] at z
    obtain ⟨o, e⟩ := r.tracked a ha
    exact ne_of_none e hx z
  ap := fun a ha z => by
    rcases List.mem_append.mp ha with ha | ha
    · exact r.ap a ha z
    · rw [List.mem_singleton.mp ha] at z
      obtain ⟨us, e⟩ := r.res x z
      rw [hx] at e
      cases e
  ob := fun i a o e1 e2 => by
    by_cases hi : i < m.length
    · rw [List.getElem?_append_left hi] at e1
      rw [List.getElem?_append_left (by rw [← r.len]; exact hi)] at e2
      have y := r.ob i a o e1 e2
      obtain ⟨v, hv, _⟩ := y.there
      exact y.grow (Grow.made hx hd) (by rw [upd_ne (ne_of_none hv hx), upd_ne (ne_of_none hv hd)])
    · have hm : i = m.length := by
        have := (List.getElem?_eq_some_iff.mp e1).1
        rw [List.length_append, List.length_singleton] at this
        omega
      subst hm
      rw [List.getElem?_append_right (Nat.le_refl _), Nat.sub_self] at e1
      rw [r.len, List.getElem?_append_right (Nat.le_refl _), Nat.sub_self] at e2
      cases e1
      cases e2
      refine ⟨dx, [], SlAt.made hn, fun z => ?_, fun z => ?_, fun i y hy => ?_⟩
      · rcases List.mem_append.mp z with z | z
        · obtain ⟨o, e⟩ := r.tracked dx z
          rw [hd] at e
          cases e
        · exact hn (List.mem_singleton.mp z)
      · obtain ⟨us, e⟩ := r.res dx z
        rw [hd] at e
        cases e
      · have := List.mem_of_getElem? hy
        rw [List.mem_replicate] at this
        cases this.2
  res := fun a ha => by
    obtain ⟨us, e⟩ := r.res a ha
    exact ⟨us, by rw [upd_ne (ne_of_none e hx), upd_ne (ne_of_none e hd)]; exact e⟩
theorem made_ok {L m : List Addr} {h : Hh} {H : Hp} {σ : L2.St} {r : R Vl} {x dx : Addr} {Q : VK} (rh : RepH Γ L m h H) (hx : H x = none) (hd : H dx = none) (hn : dx ≠ x) (hc : Γ.cok c = true) (kk : okG Γ W L m H σ (fun m' H' => RepV Γ L m' H') (bnd r fun v h' => made c h.length v h') Q) :
    okG Γ W L (m ++ [x]) (upd (upd H dx (.own x)) x (.ins (Γ.ca c) dx [])) σ (fun m' H' => RepV Γ L m' H') r (fun v H2 => v = .non ∧ Q (.ref x) H2) := by
  have g0 : Grow m H (m ++ [x]) (upd (upd H dx (.own x)) x (.ins (Γ.ca c) dx [])) := Grow.made hx hd
  cases r with
  | bad => exact kk.elim
  | exc c' p h' => exact fun m' H' d g rh' rx => kk m' H' d (g0.tr (RepH.made rh hx hd hn (c := c) (n := 0)) g) rh' rx
  | ok v h1 =>
    intro m' H' u g rh' rv
    have kk : okG Γ W L m H σ (fun m' H' => RepV Γ L m' H') (made c h.length v h1) Q := kk
    unfold made at kk
    split at kk
    · have eu : u = .non := rv
      refine ⟨eu, ?_⟩
      split at kk
      · rename_i hl
        have hl := of_decide_eq_true hl
        split at kk
        · rename_i c' xs ho
          split at kk
          rotate_left
          · exact kk.elim
          rename_i ec
          have ec := (of_decide_eq_true ec).symm
          subst ec
          split at kk
          · rename_i l hal
            split at kk
            · rename_i w1
              split at kk
              · rename_i w2
                obtain ⟨t, et, _⟩ := g.ext
                have ht : t = [] := by
                  have a1 := rh'.len
                  rw [et, List.length_append, List.length_append, List.length_singleton, hl, rh.len] at a1
                  exact List.length_eq_zero_iff.mp (by omega)
                rw [ht, List.append_nil] at et
                subst et
                have em : h.length = m.length := rh.len.symm
                rw [em] at w1 w2 ho
                have hxm : (m ++ [x])[m.length]? = some x := by rw [List.getElem?_append_right (Nat.le_refl _), Nat.sub_self]; rfl
                have nxm : x ∉ m := fun z => by
                  obtain ⟨o, e⟩ := rh.tracked x z
                  rw [hx] at e
                  cases e
                obtain ⟨dx', vs, qs, n1, n2, fs⟩ := rh'.at_ hxm ho
                obtain ⟨us, h3, h4⟩ := slots_us (Γ := Γ) (vs := vs) (j := 0) hal fun i y hy => by rw [Nat.zero_add]; exact fs i y hy
                have g2 := g0.tr (RepH.made rh hx hd hn (c := c) (n := 0)) g
                rw [em] at kk
                refine kk m H' (.ref x) ⟨⟨[], by simp, fun _ z => nomatch z⟩, g2.keep, g2.tup, g2.frz, g2.own⟩ (rh'.shrink w2) ⟨x, dx', vs, us, rfl, qs, nxm, rh'.ap x (List.mem_of_getElem? hxm), not_mem_left n1, n2, ⟨hc, fun i w hw => by have := h4 i w hw; rwa [Nat.zero_add] at this⟩, RepL.shrink w1 h3⟩
              · exact kk.elim
            · exact kk.elim
          · exact kk.elim
        · exact kk.elim
      · exact kk.elim
    · exact kk.elim
theorem run_mk {L m : List Addr} {h : Hh} {H : Hp} {f' n : Nat} {us : List Value} {vs : List V} {xs : List Vl} {pins : List (Addr × Obj)} {σ : L2.St} {s : Shared} {Q : VK} (C : Cn X Γ W) (F : FnI Γ cf (k - 1) f') (hr : Room k X.A) (hk : 1 ≤ k ∨ ∀ f xs h, cf f xs h = .bad) (M : L2.Mk Γ.K (Γ.ca c) (Γ.fa f')) (hc : Γ.cok c = true)
    (I : Inv X pins σ H s) (r : Vals vs us) (rh : RepH Γ L m h H) (rx : RepL Γ L m H xs vs) (kk : okG Γ W L m H σ (fun m' H' => RepV Γ L m' H') (bnd (cf f' (.ref h.length :: xs) (h ++ [.ins c (List.replicate n none)])) fun v h' => made c h.length v h') Q) :
    wpAny (model X.prog X.w) X.A (call (.ref (Γ.ca c)) us) (EP X pins σ Q) X.xe s := by
  have hk : 1 ≤ k := by
    rcases hk with hk | hk
    · exact hk
    · rw [hk] at kk
      exact kk.elim
  obtain ⟨fd, ps, F', hb⟩ := F.ok
  rw [← C.prog, ← C.w, ← C.K, ← C.mg, ← C.base] at F'
  rw [← C.K] at hb M
  have FR := FnOk.raw F' hb .nil
  have hr1 : Room (k - 1 + 1) X.A := hr.mono (by omega)
  have fx : H (s.heap.objs.size + 1) = none := I.hok.fresh (Nat.le_succ _)
  have fd' : H s.heap.objs.size = none := I.hok.fresh (Nat.le_refl _)
  have ne : s.heap.objs.size ≠ s.heap.objs.size + 1 := Nat.ne_of_lt (Nat.lt_succ_self _)
  have g := Grow.made (C := Γ.ca c) (m := m) fx fd'
  have rh2 := RepH.made (c := c) (n := n) rh fx fd' ne
  have k2 := made_ok rh fx fd' ne hc kk
  have I2 := Inv.made (C := Γ.ca c) I
  have hq : spC Γ cf f' (V.ref (s.heap.objs.size + 1) :: vs ++ []) (upd (upd H s.heap.objs.size (.own (s.heap.objs.size + 1))) (s.heap.objs.size + 1) (.ins (Γ.ca c) s.heap.objs.size [])) (fun v H2 => v = .non ∧ Q (.ref (s.heap.objs.size + 1)) H2) (WE W σ) := by
    rw [List.append_nil]
    refine ⟨L, m ++ [s.heap.objs.size + 1], h ++ [.ins c (List.replicate n none)], .ref h.length :: xs, rh2, ⟨⟨_, rfl, ?_⟩, rx.grow' g⟩, k2.at⟩
    rw [← rh.len, List.getElem?_append_right (Nat.le_refl _), Nat.sub_self]
    rfl
  have r2 : Vals (V.ref (s.heap.objs.size + 1) :: vs) (Value.ref (s.heap.objs.size + 1) :: us) := .cons rfl r
  refine wpAny_call (make_map (f := Γ.fa f') I.kIn M.makes M.init (beq_iff_eq.mp M.fn) (codeAny_mono (FR _ X.stack _ _ _ _ _ _ (hr1.make (Γ.ca c) us []) (I2.env0.make (Γ.ca c) us []) r2 hq) fun o s2 z => ?_))
  cases o with
  | error e => exact passAt C.tk σ pins _ _ e s2 I2 z
  | ok fl =>
    cases fl with
    | ret u =>
      obtain ⟨v, H3, I3, rv, ev, q3⟩ := I2.after z
      subst ev
      exact ⟨rv, V.ref (s.heap.objs.size + 1), H3, I3, rfl, q3⟩
    | next => exact z.elim
    | brk => exact z.elim
    | cont => exact z.elim
theorem s_mk (C : Cn X Γ W) (F : ∀ g, FnI Γ cf (k - 1) g) (hr : Room k X.A) (hk : 1 ≤ k ∨ ∀ f xs h, cf f xs h = .bad) (M : KlMk Γ G c) (hg : Gl X x) (hm : Γ.mg x = some (.ref (Γ.ca c))) (hdb : (x == ("__debug__" : Str)) = false) (kp : PySem.W.keepIn Γ.K (.ref (Γ.ca c)) = true) (ha : PA X (e :: es) (tL Γ W el)) (hst : noStars (e :: es) = true) :
    PE X (.Call (.Name x p) (e :: es) [] pos) (tE Γ W fun env h => match G.init c with
      | some (f, n) => bnd (el env h) fun xs h => bnd (cf f (.ref h.length :: xs) (h ++ [.ins c (List.replicate n none)])) fun v h' => made c h.length v h'
      | none => .bad) := by
  rw [← C.K] at kp
  rw [← C.mg] at hm
  obtain ⟨h1, h2⟩ := noStars_cons hst
  refine ⟨fun pins s σ H Q I hq => ?_⟩
  obtain ⟨L, m, h, env, rh, re, kk⟩ := hq
  dsimp only at kk
  cases hi : G.init c with
  | none => rw [hi] at kk; exact kk.elim
  | some fn =>
    obtain ⟨f', n⟩ := fn
    rw [hi] at kk
    dsimp only at kk
    refine wpAny_Call_Name_kw (ld_glob I hg hm ?_ hdb)
    refine PySem.W.callWith_K (h₀ := X.base) I.ok.mod.kin kp (thn (ha.run pos pins s σ H (fun vs H1 => ∃ m1 h1 xs, RepH Γ L m1 h1 H1 ∧ RepL Γ L m1 H1 xs vs ∧ okG Γ W L m1 H1 σ (fun m' H' => RepV Γ L m' H') (bnd (cf f' (.ref h1.length :: xs) (h1 ++ [.ins c (List.replicate n none)])) fun v h' => made c h1.length v h') Q) I ⟨L, m, h, env, rh, re, kk.bind fun m1 H1 xs h1 us g1 rh1 rx k1 => ⟨m1, h1, xs, rh1, rx, k1⟩⟩) fun us s1 ⟨vs, H1, I1, r, m', h', args, a1, a2, a3⟩ => ⟨I1.kIn, ?_⟩) (star_cons h1) (noStars_any h2)
    exact run_mk C (F f') hr hk (M.made _ _ hi) M.ok I1 r a1 a2 a3
theorem putS_at {i j : Nat} {v w : V} {vs : List (Option V)} (h : vs[j]? = some (some w)) (n : j ≠ i) : (putS i v vs)[j]? = some (some w) := by
  unfold putS
  rw [List.getElem?_set_ne (Ne.symm n)]
  rw [List.getElem?_append_left (List.getElem?_eq_some_iff.mp h).1]
  exact h
theorem putS_here (i : Nat) (v : V) (vs : List (Option V)) : (putS i v vs)[i]? = some (some v) := by
  unfold putS
  exact List.getElem?_set_self (by simp only [List.length_append, List.length_replicate]; omega)
theorem setF_some {h h' : Hh} {o v : Vl} {f : Nat} (e : setF G h o f v = some h') : ∃ n c xs i, o = .ref n ∧ h[n]? = some (.ins c xs) ∧ G.at_ c f = some (.inl i) ∧ i < xs.length ∧ h' = h.set n (.ins c (xs.set i (some v))) := by
  unfold setF at e
  split at e
  · rename_i n
    split at e
    · rename_i c xs hn
      split at e
      · rename_i i hi
        split at e
        · rename_i hl
          exact ⟨n, c, xs, i, rfl, hn, hi, hl, (Option.some.inj e).symm⟩
        · cases e
      · cases e
    · cases e
  · cases e
theorem set_rep {L m : List Addr} {h : Hh} {H : Hp} {n i : Nat} {xs : List (Option Vl)} {v : Vl} {a : Addr} {u : V} (rh : RepH Γ L m h H) (ha : m[n]? = some a) (hn : h[n]? = some (.ins c xs)) (hi : i < xs.length) (rv : RepV Γ L m H v u) :
    ∃ dx vs, SlAt H a (Γ.ca c) dx vs ∧ Grow m H m (upd H a (SlO (Γ.ca c) dx a (putS i u vs))) ∧ RepH Γ L m (h.set n (.ins c (xs.set i (some v)))) (upd H a (SlO (Γ.ca c) dx a (putS i u vs))) := by
  obtain ⟨dx, vs, qs, n1, n2, fs⟩ := rh.at_ ha hn
  have g : Grow m H m (upd H a (SlO (Γ.ca c) dx a (putS i u vs))) := Grow.write rh ha
  refine ⟨dx, vs, qs, g, rh.write ha (List.getElem?_eq_some_iff.mp hn).1 ⟨dx, putS i u vs, qs.here, n1, n2, fun j y hy => ?_⟩⟩
  by_cases hj : j = i
  · subst hj
    rw [List.getElem?_set_self hi] at hy
    cases Option.some.inj (Option.some.inj hy)
    exact ⟨u, putS_here _ _ _, rv.grow g⟩
  · rw [List.getElem?_set_ne (Ne.symm hj)] at hy
    obtain ⟨w, h1, h2⟩ := fs j y hy
    exact ⟨w, putS_at h1 hj, h2.grow g⟩
end
end Mi
set_option Elab.async false
set_option linter.all false
set_option maxRecDepth 100000
set_option maxHeartbeats 4000000
namespace Mi
open PySem PySem.Spec PyProof.Rows L2
section
variable {X : Cx} {Γ : Gm} {W : WX} {G : GT} {cf : CF} {k f c : Nat} {x : Str} {p p2 pos apos : Pos} {e o : Expr} {es : List Expr} {el : Env → Hh → R (List Vl)} {ea eo : Env → Hh → R Vl}
def tAtt (K : PySem.W.Frag) (x : Str) (o v : V) (H : Hp) (Q : Hp → Prop) : Prop := ∃ a C dx vs i q, o = .ref a ∧ SlAt H a C dx vs ∧ L2.SCls K C ∧ L2.Slt K C x i q ∧ Q (upd H a (SlO C dx a (putS i v vs)))
def gAtt (K : PySem.W.Frag) (x : Str) (to : TE) : TG := fun v σ H Q => to σ H fun ov H1 => tAtt K x ov v H1 fun H2 => Q σ H2
theorem pg_att {to : TE} (ho : PE X o to) : PG X (.Attribute o x apos) (gAtt X.K x to) := by
  refine ⟨fun pins s σ H v u Q I r hq => ?_⟩
  rw [assign_Attribute]
  refine wpAny_bind (wpAny_holding (thn (ho.run pins s σ H _ I hq) fun ov s1 ⟨y, H1, I1, r1, a, C, dx, vs, i, q, ey, hs, hc, hk, z⟩ => ?_))
  subst ey
  obtain rfl : ov = Value.ref a := r1
  refine wpAny_bind (wpAny_standAt (wpAny_bind (wpAny_holding (setslot_ok I1 hs hc hk r fun s2 I2 => ?_))))
  exact wpAny_release ⟨σ, _, I2, z⟩
theorem att_ok {ats : List (Str × Nat)} {L m : List Addr} {h h' : Hh} {H : Hp} {ov v : Vl} {a u : V} {Q : Hp → Prop} (T : Kl Γ G ats) (hx : ats.lookup x = some f) (rh : RepH Γ L m h H) (ro : RepV Γ L m H ov a) (rv : RepV Γ L m H v u) (e : setF G h ov f v = some h')
    (kk : ∀ H', Grow m H m H' → RepH Γ L m h' H' → Q H') : tAtt Γ.K x a u H Q := by
  obtain ⟨n, c, xs, i, rfl, hn, hi, hl, rfl⟩ := setF_some e
  obtain ⟨b, rfl, hm⟩ := ro
  obtain ⟨kc, q, ks⟩ := T.sl c x f i hx hi
  obtain ⟨dx, vs, hs, g, rh'⟩ := set_rep (c := c) rh hm hn hl rv
  exact ⟨b, _, dx, vs, i, q, rfl, hs, kc, ks, kk _ g rh'⟩
def setfR (G : GT) (f : Nat) (env : Env) (v x : Vl) (h : Hh) : R Oc := match setF G h x f v with
  | some h => .ok (.nx env) h
  | none => .bad
theorem s_setf {ats : List (Str × Nat)} (C : Cn X Γ W) (T : Kl Γ G ats) (hx : ats.lookup x = some f) (he : PE X e (tE Γ W ea)) (ho : PE X o (tE Γ W eo)) (hl : isLC e = false) (ht : isTup e = false) :
    PS X (.Assign [.Attribute o x apos] e pos) (tS Γ W fun env h => bnd (ea env h) fun v h => bnd (eo env h) fun y h => setfR G f env v y h) := by
  refine ps_imp (ps_asg he (pg_att ho) (show swapsWith e (some (.Attribute o x apos)) pos.line X.env = pure false from swaps_no hl) (swapped_no ht) rfl) fun D σ H hq => ?_
  obtain ⟨L, m, h, env, rh, re, kk⟩ := hq
  refine ⟨L, m, h, env, rh, re, okS.bind kk fun m1 H1 v h1 w g1 rh1 rv k1 => ⟨L, m1, h1, env, rh1, re.grow g1, okS.bind k1 fun m2 H2 y h2 u g2 rh2 ry k2 => ?_⟩⟩
  unfold setfR at k2
  split at k2
  · rename_i h3 hs
    rw [C.K]
    exact att_ok T hx rh2 ry (rv.grow g2) hs fun H' g3 rh3 => k2 m2 H' σ g3 rh3 (((re.grow g1).grow g2).grow g3)
  · exact k2.elim
def gAtts (K : PySem.W.Frag) (to : TE) : List Str → TGs
  | [] => gNil
  | x :: r => gCons (gAtt K x to) (gAtts K to r)
theorem atts_ok {ats : List (Str × Nat)} {L : List Addr} {env : Env} {σ : L2.St} {ov : Vl} (T : Kl Γ G ats) (hv : ∀ H1 m1 h1, RepH Γ L m1 h1 H1 → RepE Γ L m1 H1 env σ → ∀ Q : VK, (∀ m2 H2 u, Grow m1 H1 m2 H2 → RepH Γ L m2 h1 H2 → RepV Γ L m2 H2 ov u → Q u H2) → tE Γ W eo σ H1 Q) :
    ∀ {xs : List Str} {fs : List Nat} {vs : List Vl} {us : List V} {m : List Addr} {h h' : Hh} {H : Hp} {Q : L2.St → Hp → Prop}, Paired (fun x f => ats.lookup x = some f) xs fs → setFs G h ov fs vs = some h' → RepH Γ L m h H → RepE Γ L m H env σ → RepL Γ L m H vs us →
      (∀ m' H', Grow m H m' H' → RepH Γ L m' h' H' → RepE Γ L m' H' env σ → Q σ H') → gAtts Γ.K (tE Γ W eo) xs us σ H Q
  | [], [], [], [], m, h, h', H, Q, _, e, rh, re, _, kk => by
    cases Option.some.inj e
    exact ⟨rfl, kk m H (Grow.refl _ _) rh re⟩
  | x :: xs, f :: fs, v :: vs, u :: us, m, h, h', H, Q, hp, e, rh, re, rl, kk => by
    cases hp with
    | cons hx hp =>
      have e : (match setF G h ov f v with
        | some h => setFs G h ov fs vs
        | none => none) = some h' := e
      cases hs : setF G h ov f v with
      | none => rw [hs] at e; cases e
      | some h1 =>
        rw [hs] at e
        refine ⟨u, us, rfl, hv H m h rh re _ fun m2 H2 a g2 rh2 ra => att_ok T hx rh2 ra (rl.1.grow g2) hs fun H1 g1 rh1 => ?_⟩
        exact atts_ok T hv hp e rh1 ((re.grow g2).grow g1) ((rl.2.grow' g2).grow' g1) fun m3 H' g rh' re' => kk m3 H' ((g2.tr rh2 g1).tr rh1 g) rh' re'
  | [], [], [], _ :: _, _, _, _, _, _, _, _, _, _, rl, _ => rl.elim
  | [], [], _ :: _, _, _, _, _, _, _, _, e, _, _, _, _ => by cases e
  | _ :: _, _ :: _, [], _, _, _, _, _, _, _, e, _, _, _, _ => by cases e
  | _ :: _, _ :: _, _ :: _, [], _, _, _, _, _, _, _, _, _, rl, _ => rl.elim
  | [], _ :: _, _, _, _, _, _, _, _, hp, _, _, _, _, _ => by cases hp
  | _ :: _, [], _, _, _, _, _, _, _, hp, _, _, _, _, _ => by cases hp
theorem setFs_len {h' : Hh} {o : Vl} : ∀ {fs : List Nat} {vs : List Vl} {h : Hh}, setFs G h o fs vs = some h' → vs.length = fs.length
  | [], [], _, _ => rfl
  | [], _ :: _, _, e => by cases e
  | _ :: _, [], _, e => by cases e
  | f :: fs, v :: vs, h, e => by
    have e : (match setF G h o f v with
      | some h => setFs G h o fs vs
      | none => none) = some h' := e
    cases hs : setF G h o f v with
    | none => rw [hs] at e; cases e
    | some h1 =>
      rw [hs] at e
      rw [List.length_cons, List.length_cons, setFs_len e]
def parfR (G : GT) (o : Nat) (fs : List Nat) (el : Env → Hh → R (List Vl)) (env : Env) (h : Hh) : R Oc := match env[o]? with
  | some (some x) => bnd (el env h) fun vs h => match setFs G h x fs vs with
    | some h => .ok (.nx env) h
    | none => .bad
  | _ => .bad
theorem s_parf {ats : List (Str × Nat)} {i kt k2 : Nat} {pt pt2 : Pos} {ts vs : List Expr} {xs : List Str} {fs : List Nat} (C : Cn X Γ W) (T : Kl Γ G ats) (hp : Paired (fun x f => ats.lookup x = some f) xs fs) (hg : PGs X ts (gAtts X.K (tE Γ W fun env h => match env[i]? with
      | some (some v) => .ok v h
      | _ => .bad) xs)) (hl : ts.length = fs.length) (hst : noStars ts = true) (hz : fs.length ≤ 1000) (ha : PA X vs (tL Γ W el)) (hw : swappedStores [.Tuple ts kt pt] (.Tuple vs k2 pt2) X.env = pure none) :
    PS X (.Assign [.Tuple ts kt pt] (.Tuple vs k2 pt2) pos) (tS Γ W (parfR G i fs el)) := by
  refine ps_imp (ps_asg (pe_tup ha) (pg_tup C.calm hg ((assign_plain hst).1.trans hl) (assign_find hst)) (show swapsWith (.Tuple vs k2 pt2) (some (.Tuple ts kt pt)) pos.line X.env = pure false from swaps_tup) hw rfl) fun D σ H hq => ?_
  obtain ⟨L, m, h, env, rh, re, kk⟩ := hq
  unfold parfR at kk
  split at kk
  · rename_i y hy
    refine ⟨L, m, h, env, rh, re, okS.bind kk fun m1 H1 ys h1 us g1 rh1 rx k1 => ?_⟩
    split at k1
    · rename_i h2 hs
      have hlu : us.length = fs.length := by rw [← rx.length]; exact setFs_len (h := h1) hs
      have g2 : ∀ q, H1 q = none → Grow m1 H1 m1 (upd H1 q (.tup us)) := fun q hq => Grow.fresh hq
      refine ⟨by rw [hlu]; exact Nat.le_of_lt (small1000 hz), fun q hq => ?_⟩
      rw [C.K]
      refine ⟨q, us, rfl, SqT.of upd_same, hlu, ?_⟩
      refine atts_ok T (fun H3 m3 h3 rh3 re3 Q kq => ?_) hp hs (rh1.fresh hq) ((re.grow g1).grow (g2 q hq)) (rx.grow' (g2 q hq)) fun m' H' g rh' re' => k1 m' H' σ ((g2 q hq).tr (rh1.fresh hq) g) rh' re'
      refine ⟨L, m3, h3, env, rh3, re3, ?_⟩
      dsimp only
      rw [hy]
      exact fun m4 H4 u g4 rh4 ru => kq m4 H4 u g4 rh4 ru
    · exact k1.elim
  · exact kk.elim
end
end Mi
set_option Elab.async false
set_option linter.all false
set_option maxRecDepth 100000
set_option maxHeartbeats 4000000
namespace Mi
open PySem PySem.Spec PyProof.Rows L2
structure KlIs (Γ : Gm) (c : Nat) : Prop where
  base : ∀ T ∈ ["NoneType", "int", "bool", "str", "tuple", "list"], PySem.W.kitOne Γ.K (.type T) (.ref (Γ.ca c)) = some false
  own : ∀ d, Γ.cok d = true → PySem.W.kitOne Γ.K (.ref (Γ.ca d)) (.ref (Γ.ca c)) = some (d == c)
section
variable {X : Cx} {Γ : Gm} {W : WX} {c : Nat} {x : Str} {e : Expr} {p p2 pos : Pos} {ea : Env → Hh → R Vl}
def rIo (Γ : Gm) (W : WX) (σ : L2.St) (c : Nat) : List V → Hp → VK → Prop := fun xs H Q => ∃ x L m h a, xs = [x, .ref (Γ.ca c)] ∧ RepH Γ L m h H ∧ RepV Γ L m H a x ∧ okG Γ W L m H σ (fun m' H' => RepV Γ L m' H') (isownR c a h) Q
theorem kd_base {k : Kd} (hk : ∀ c, k ≠ .own c) : kdNm k ∈ ["NoneType", "int", "bool", "str", "tuple", "list"] := by
  cases k <;> first | exact absurd rfl (hk _) | decide
theorem cb_io {σ0 : L2.St} (C : Cn X Γ W) (ow : ∀ c, Γ.cok c = true → OwnOk Γ c) (T : KlIs Γ c) : CallR X (.builtin "isinstance") (rIo Γ W σ0 c) := by
  intro pins s σ H xs us Q I r hq
  obtain ⟨x, L, m, h, a, rfl, rh, ra, kk⟩ := hq
  unfold isownR at kk
  have plain : ∀ k, kdOf h a = some k → (∀ c, k ≠ .own c) → okG Γ W L m H σ0 (fun m' H' => RepV Γ L m' H') (.ok (.bl false) h) Q → wpAny (model X.prog X.w) X.A (call (.builtin "isinstance") us) (EP X pins σ Q) X.xe s := fun k ek hkk kk => by
    have ty := ty_kd rh ra ek hkk
    have tb := T.base _ (kd_base hkk)
    rw [← C.K] at ty tb
    exact call_isi pins s σ H _ us Q I r ⟨x, _, _, _, false, rfl, .own _, ty, tb, kk m H _ (Grow.refl _ _) rh rfl⟩
  cases ek : kdOf h a with
  | none =>
    rw [ek] at kk
    exact kk.elim
  | some k =>
    rw [ek] at kk
    cases k with
    | own d =>
      obtain ⟨xs, rfl⟩ := kd_ins ek
      obtain ⟨b, dx, vs, us', rfl, q, _, _, _, _, fo, _⟩ := ra
      have ed : d = d := rfl
      have o := ow _ fo.1
      obtain ⟨u1, u2, rfl, r1, r2⟩ := vals2 r
      cases (show u1 = Value.ref b from r1)
      cases (show u2 = Value.ref _ from r2)
      obtain ⟨us, od, _, _, J⟩ := L2.slAt_get I q
      have e := T.own _ fo.1
      have c1 := o.cls.ic
      have c2 : PySem.W.plainGet Γ.K (Γ.ca d) "__class__" = true := o.cls.pg
      have c3 := o.fc
      have c4 := o.sp
      have c5 := o.tk
      have c6 := o.mro
      rw [← C.K] at e c1 c2 c3 c4 c5 c6
      exact PySem.W.kia_one (OwX.kitx_slt c1 c2 c3 c4 c5 c6) I.kIn J e (fun z => nomatch z) fun tk => ⟨.bl _, H, I.tok _, rfl, kk m H _ (Grow.refl _ _) rh rfl⟩
    | non => exact plain _ ek (by simp) kk
    | bl => exact plain _ ek (by simp) kk
    | int => exact plain _ ek (by simp) kk
    | str => exact plain _ ek (by simp) kk
    | tup => exact plain _ ek (by simp) kk
    | lst => exact plain _ ek (by simp) kk
theorem s_isown (C : Cn X Γ W) (ow : ∀ c, Γ.cok c = true → OwnOk Γ c) (T : KlIs Γ c) (hg : Gl X "isinstance") (hm : Γ.mg "isinstance" = none) (hg2 : Gl X x) (hm2 : Γ.mg x = some (.ref (Γ.ca c))) (hdb : (x == ("__debug__" : Str)) = false) (ha : PE X e (tE Γ W ea)) (hst : isStar e = false) :
    PE X (.Call (.Name "isinstance" p) [e, .Name x p2] [] pos) (tE Γ W fun env h => bnd (ea env h) (isownR c)) := by
  rw [← C.mg] at hm hm2
  have ht : PE X (.Name x p2) (tC (.ref (Γ.ca c))) := pe_glob hg2 hm2 rfl hdb
  refine ⟨fun pins s σ H Q I hq => ?_⟩
  refine (pe_callB (cb_io (σ0 := σ) C ow T) hg hm PyProof.Rows.boot_isinstance (pa_cons ha (pa_cons ht pa_nil rfl) (star_cons hst)) (by decide) (by decide) (star_cons hst) rfl).run pins s σ H Q I ?_
  obtain ⟨L, m, h, env, rh, re, kk⟩ := hq
  exact ⟨L, m, h, env, rh, re, kk.bind fun m1 H1 y h1 u g1 rh1 ry k1 => ⟨u, L, m1, h1, y, rfl, rh1, ry, k1⟩⟩
end
end Mi
set_option Elab.async false
set_option linter.all false
set_option maxRecDepth 100000
set_option maxHeartbeats 4000000
namespace NeX
open PySem PySem.Spec PyProof.Rows
section
variable {prog : Program} {w : World} {A : Around} {E : Value → Shared → Prop} {s : Shared} {K : PySem.W.Frag} {x C f : Addr} {ox : Obj} {od : Option Obj} {b tb : Value}
theorem body_ne {Q : Fin → Shared → Prop} (X : K.In s.heap) (I : PySem.W.InstAt s.heap x ox C od) (he : PySem.W.findIn K (.ref C) "__eq__" = some (some (.ref f))) (hf : PySem.W.isFn K (.ref f) = true) (hu : A.units < cLine)
    (h : wpAny (model prog w) A (call (.ref f) [.ref x, b]) (fun v s' => ∃ r, v = .bool r ∧ Q (.done (.ret (.bool (!r)))) s') E s) : wpAny (model prog w) A (Builtin.«object.__ne__» ⟨[.ref x, b], []⟩) Q E s := by
  unfold Builtin.«object.__ne__»
  repeat (first
    | with_reducible refine wpAny_cRoomFor hu ?_
    | (refine wpAny_bind (m := callSpecialIfBound? (.ref x) (Str.ofString "__eq__") [b]) (PySem.W.ifBound_K X I he hf (wpAny_mono h (fun r s' hr => by
          obtain ⟨r', rfl, hq⟩ := hr
          repeat (first | exact hq | exact wpAny_pure hq | exact wpAny_truthy_bool hq | (refine wpAny_bind (m := truthy (.bool _)) (wpAny_truthy_bool ?_)) | wp_step)) fun _ _ e => e)))
    | wp_step)
theorem bound_ne {Q : Option Value → Shared → Prop} (X : K.In s.heap) (I : PySem.W.InstAt s.heap x ox C od) (hn : PySem.W.findIn K (.ref C) "__ne__" = some (some (.builtin "object.__ne__"))) (hm : PySem.W.mroIn K C (.type "object") = some true)
    (he : PySem.W.findIn K (.ref C) "__eq__" = some (some (.ref f))) (hf : PySem.W.isFn K (.ref f) = true) (hu : A.units + 1 < cLine)
    (h : wpAny (model prog w) A.in1 (call (.ref f) [.ref x, b]) (fun v s' => ∃ r, v = .bool r ∧ Q (some (.bool (!r))) s') E s) : wpAny (model prog w) A (callSpecialIfBound? (.ref x) "__ne__" [b]) Q E s := by
  have hi : PySem.W.Looks (model prog w) s.heap (isInstance (.ref x) (.type "object")) true := I.type.andThen (PySem.W.looks_mroIn X hm)
  simp only [callSpecialIfBound?, bindSpecialIfBound?]
  refine wpAny_holding (wpAny_bind (wpAny_bind (wpAny_bind (I.type.here ((PySem.W.looks_findIn X hn).here ?_)))))
  refine wpAny_bind (wpAny_askSetting (wpAny_ite ?_))
  have fin : wpAny (model prog w) A (call (.builtin "object.__ne__") ([.ref x] ++ [b]) >>= fun v => pure (some v)) Q E s := by
    refine wpAny_bind (wpAny_call (codeAny_call_builtin PySem.F.cmp_object.ne.plain F.cmpEntry_ne (PySem.W.check_slot F.cmpKind_ne F.cmpSplit_ne hi (F.cmpArgs_ne _ _) (body_ne X I he hf hu (wpAny_mono h (fun v s' hv => ?_) fun _ _ e => e)))))
    obtain ⟨r, rfl, hq⟩ := hv
    first | exact ⟨r, rfl, wpAny_pure hq⟩ | exact ⟨r, rfl, hq⟩
  split
  · rw [PySem.F.cmp_object.ne.bind]
    exact wpAny_bind (wpAny_pure (wpAny_pure fin))
  · rw [PySem.F.cmp_object.ne.bind]
    exact wpAny_tryCatch (wpAny_bind (wpAny_pure (wpAny_pure fin)))
theorem ne_K {Q : Value → Shared → Prop} (hu : A.units + 1 < cLine) (X : K.In s.heap) (I : PySem.W.InstAt s.heap x ox C od) (hb : PySem.W.Looks (model prog w) s.heap (typeOf b) tb) (hf1 : PySem.W.notFirst K C tb = true)
    (hn : PySem.W.findIn K (.ref C) "__ne__" = some (some (.builtin "object.__ne__"))) (hm : PySem.W.mroIn K C (.type "object") = some true) (he : PySem.W.findIn K (.ref C) "__eq__" = some (some (.ref f))) (hf : PySem.W.isFn K (.ref f) = true)
    (h : wpAny (model prog w) A.in1 (call (.ref f) [.ref x, b]) (fun v s' => ∃ r, v = .bool r ∧ Q (.bool (!r)) s') E s) : wpAny (model prog w) A (richCompare .NotEq (.ref x) b) Q E s := by
  have one : wpAny (model prog w) A (tryCompare (.ref x) "__ne__" b) (fun r s' => ∃ v, r = some v ∧ Q v s') E s := by
    unfold tryCompare
    refine wpAny_bind (bound_ne X I hn hm he hf hu (wpAny_mono h (fun v s' hv => ?_) fun _ _ e => e))
    obtain ⟨r, rfl, hq⟩ := hv
    exact ⟨r, rfl, wpAny_pure ⟨_, rfl, hq⟩⟩
  unfold richCompare
  simp only [oneThing_ref]
  refine wpAny_holding (wpAny_bind (wpAny_cRoomFor (Nat.lt_of_succ_lt hu) ?_))
  rw [cmpInfo_NotEq]
  dsimp only
  refine wpAny_bind (I.type.here (wpAny_bind (hb.here ?_)))
  split
  · rename_i q
    have e : PySem.W.subIn K tb (.ref C) = some false := by
      rcases Bool.or_eq_true_iff.mp hf1 with e | e
      · rw [beq_iff_eq.mp e] at q
        simp at q
      · exact beq_iff_eq.mp e
    refine wpAny_bind ((PySem.W.looks_subIn X e).here ?_)
    simp only [Bool.false_eq_true, if_false]
    refine wpAny_bind (wpAny_mono one (fun r s' z => ?_) fun _ _ e => e)
    obtain ⟨v, rfl, hq⟩ := z
    exact wpAny_pure hq
  · refine wpAny_bind (wpAny_pure ?_)
    simp only [Bool.false_eq_true, if_false]
    refine wpAny_bind (wpAny_mono one (fun r s' z => ?_) fun _ _ e => e)
    obtain ⟨v, rfl, hq⟩ := z
    exact wpAny_pure hq
end
end NeX
namespace Mi
open PySem PySem.Spec PyProof.Rows L2
structure KlEq (Γ : Gm) (G : GT) (c : Nat) : Prop where
  eq : ∀ g, G.eqf c = some g → PySem.W.findIn Γ.K (.ref (Γ.ca c)) "__eq__" = some (some (.ref (Γ.fa g))) ∧ PySem.W.isFn Γ.K (.ref (Γ.fa g)) = true
  ne : PySem.W.findIn Γ.K (.ref (Γ.ca c)) "__ne__" = some (some (.builtin "object.__ne__"))
  base : ∀ T ∈ ["NoneType", "int", "bool", "str", "tuple", "list"], PySem.W.notFirst Γ.K (Γ.ca c) (.type T) = true
  own : ∀ d, Γ.cok d = true → PySem.W.notFirst Γ.K (Γ.ca c) (.ref (Γ.ca d)) = true
section
variable {X : Cx} {Γ : Gm} {W : WX} {G : GT} {cf : CF} {k : Nat} {a b : Expr} {pos : Pos} {ea eb : Env → Hh → R Vl}
def ocO (neg : Bool) : CmpOp := match neg with
  | true => .NotEq
  | false => .Eq
def rOc (Γ : Gm) (G : GT) (cf : CF) (neg : Bool) : R2 := fun x y H Q => ∃ L m h u v W σ, RepH Γ L m h H ∧ RepV Γ L m H u x ∧ RepV Γ L m H v y ∧ okG Γ W L m H σ (fun m' H' => RepV Γ L m' H') (ocmpR G cf neg u v h) Q
theorem op_oc (C : Cn X Γ W) (T : ∀ c, Γ.cok c = true → KlEq Γ G c) (ow : ∀ c, Γ.cok c = true → OwnOk Γ c) (F : ∀ g, FnI Γ cf (k - 1) g) (hr : Room k X.A) (hk : 1 ≤ k ∨ ∀ f xs h, cf f xs h = .bad) (neg : Bool) : OpR X (compareOp (ocO neg)) (rOc Γ G cf neg) := by
  intro pins s σ H x y v u Q I rx ry hq
  obtain ⟨L, m, h, p, q, W', σ', rh, rp, rq, kk⟩ := hq
  unfold ocmpR at kk
  split at kk
  rotate_left
  · exact kk.elim
  rename_i c xs
  split at kk
  rotate_left
  · exact kk.elim
  rename_i g hg
  split at kk
  rotate_left
  · exact kk.elim
  rename_i kd ek
  have hk : 1 ≤ k := by
    rcases hk with hk | hk
    · exact hk
    · rw [hk] at kk
      exact kk.elim
  have rp0 := rp
  obtain ⟨ad, dx, vs, us, rfl, hs, _, _, _, _, fo, _⟩ := rp
  have T := T c fo.1
  obtain ⟨t1, t2⟩ := T.eq g hg
  have t3 := T.ne
  have t4 := (ow c fo.1).mro
  cases (show v = Value.ref ad from rx)
  obtain ⟨_, od, _, _, J⟩ := L2.slAt_get I hs
  -- the other one's type
  have base : ∀ kd, kdOf h q = some kd → (∀ c', kd ≠ .own c') → ∃ tb, PySem.W.Looks (model X.prog X.w) s.heap (typeOf u) tb ∧ PySem.W.notFirst Γ.K (Γ.ca c) tb = true := fun kd ek hkk => by
    have tx := ty_kd rh rq ek hkk
    rw [← C.K] at tx
    obtain ⟨P, Z, pz, _⟩ := kit_of I ry tx
    exact ⟨_, Z.ty _ _ I.kIn pz, T.base _ (kd_base hkk)⟩
  have ty : ∃ tb, PySem.W.Looks (model X.prog X.w) s.heap (typeOf u) tb ∧ PySem.W.notFirst X.K (Γ.ca c) tb = true := by
    rw [C.K]
    cases kd with
    | own d =>
      obtain ⟨ys, rfl⟩ := kd_ins ek
      obtain ⟨bd, dy, ws, us', rfl, hs', _, _, _, _, fo', _⟩ := rq
      cases (show u = Value.ref bd from ry)
      obtain ⟨_, od', _, _, J'⟩ := L2.slAt_get I hs'
      exact ⟨_, J'.type, T.own d fo'.1⟩
    | non => exact base _ ek (by simp)
    | bl => exact base _ ek (by simp)
    | int => exact base _ ek (by simp)
    | str => exact base _ ek (by simp)
    | tup => exact base _ ek (by simp)
    | lst => exact base _ ek (by simp)
  obtain ⟨tb, hb, hnf⟩ := ty
  have hr1 : Room (k - 1) X.A.in1 := by
    have : Room (k - 1 + 1) X.A := hr.mono (by omega)
    exact this.in1
  obtain ⟨fd, ps, F', hbd⟩ := (F g).ok
  rw [← C.prog, ← C.w, ← C.K, ← C.mg, ← C.base] at F'
  rw [← C.K] at hbd t1 t2 t3 t4
  have FR := FnOk.raw F' hbd .nil
  have go : ∀ A', Room (k - 1) A' → Env0 X.prog X.w X.K X.mg X.base A' X.stack s H → wpAny (model X.prog X.w) A' (call (.ref (Γ.fa g)) [.ref ad, u]) (fun v s' => ∃ r, v = .bool r ∧ EP X pins σ Q (.bool (r != neg)) s') X.xe s := fun A' hrA e0 => by
    refine wpAny_call (codeAny_mono (FR A' X.stack s H [.ref ad, u] [.ref ad, y] (fun v H' => ∃ r, v = .bl r ∧ Q (.bl (r != neg)) H') (fun _ _ _ => False) hrA e0 (.cons rfl (.cons ry .nil)) ⟨L, m, h, [.ins c xs, q], rh, ⟨rp0, rq, trivial⟩, ?_⟩) fun o s2 z => ?_)
    · cases hcf : cf g [.ins c xs, q] h with
      | bad => rw [hcf] at kk; exact kk.elim
      | exc c' p' h' => rw [hcf] at kk; exact kk.elim
      | ok v h1 =>
        rw [hcf] at kk
        intro m' H' u' g' rh' ru
        cases v with
        | bl r => exact ⟨r, ru, kk m' H' _ g' rh' rfl⟩
        | _ => exact kk.elim
    · cases o with
      | error e =>
        obtain ⟨_, _, _, _, _, _, _, _, _, _, _, _, z⟩ := z
        exact z.elim
      | ok fl =>
        cases fl with
        | ret u2 =>
          obtain ⟨v2, H2, I2, r2, r, ev, q2⟩ := I.after z
          subst ev
          have e2 : u2 = Value.bool r := r2
          exact ⟨r, e2, .bl (r != neg), H2, I2, rfl, q2⟩
        | next => exact z.elim
        | brk => exact z.elim
        | cont => exact z.elim
  obtain ⟨mm, hF⟩ := I.fr
  cases neg with
  | false =>
    show wpAny _ _ (richCompare .Eq (.ref ad) u) _ _ _
    refine PySem.W.cmp_K (op := .Eq) (tb := tb) hr.units0 hF I.ok.mod.kin J hb hnf t1 t2 (wpAny_mono (go X.A (hr.mono (Nat.sub_le _ _)) I.env0) (fun v s2 z => ?_) fun _ _ e => e)
    obtain ⟨r, rfl, z⟩ := z
    rw [Bool.bne_false] at z
    exact z
  | true =>
    show wpAny _ _ (richCompare .NotEq (.ref ad) u) _ _ _
    refine NeX.ne_K C.u1 I.kIn J hb hnf t3 t4 t1 t2 (wpAny_mono (go X.A.in1 hr1 I.env0.in1) (fun v s2 z => ?_) fun _ _ e => e)
    obtain ⟨r, rfl, z⟩ := z
    rw [Bool.bne_true] at z
    exact ⟨r, rfl, z⟩
theorem s_ocmp (C : Cn X Γ W) (T : ∀ c, Γ.cok c = true → KlEq Γ G c) (ow : ∀ c, Γ.cok c = true → OwnOk Γ c) (F : ∀ g, FnI Γ cf (k - 1) g) (hr : Room k X.A) (hk : 1 ≤ k ∨ ∀ f xs h, cf f xs h = .bad) (neg : Bool) (ha : PE X a (tE Γ W ea)) (hb : PE X b (tE Γ W eb)) (hm : behindInMarks (ocO neg) b = false) :
    PE X (.Compare a [ocO neg] [b] pos) (tE Γ W fun env h => bnd (ea env h) fun x h => bnd (eb env h) fun y h => ocmpR G cf neg x y h) := by
  refine pe_imp (pe_cmpR (op_oc C T ow F hr hk neg) ha hb hm) fun σ H Q hq => ?_
  obtain ⟨L, m, h, env, rh, re, kk⟩ := hq
  exact ⟨L, m, h, env, rh, re, kk.bind fun m1 H1 x h1 u g1 rh1 rx k1 => ⟨L, m1, h1, env, rh1, re.grow g1, k1.bind fun m2 H2 y h2 v g2 rh2 ry k2 => ⟨L, m2, h2, x, y, W, σ, rh2, rx.grow g2, ry, k2⟩⟩⟩
theorem ocmpR_ok {neg : Bool} {x y : Vl} {h : Hh} : ∀ v h1, ocmpR G cf neg x y h = .ok v h1 → ∃ r, v = .bl r := by
  intro v h1 e
  unfold ocmpR at e
  split at e
  · split at e
    · split at e
      · cases hc : noX (cf _ [_, _] h) with
        | bad => rw [hc] at e; cases e
        | exc c p h2 => rw [hc] at e; cases e
        | ok w h2 =>
          rw [hc] at e
          cases w with
          | bl r =>
            cases e
            exact ⟨_, rfl⟩
          | _ => cases e
      · cases e
    · cases e
  · cases e
theorem t_ocmp (C : Cn X Γ W) (T : ∀ c, Γ.cok c = true → KlEq Γ G c) (ow : ∀ c, Γ.cok c = true → OwnOk Γ c) (F : ∀ g, FnI Γ cf (k - 1) g) (hr : Room k X.A) (hk : 1 ≤ k ∨ ∀ f xs h, cf f xs h = .bad) (neg : Bool) (ha : PE X a (tE Γ W ea)) (hb : PE X b (tE Γ W eb)) (hm : behindInMarks (ocO neg) b = false) :
    PT X (.Compare a [ocO neg] [b] pos) (tB' Γ W (tru fun env h => bnd (ea env h) fun x h => bnd (eb env h) fun y h => ocmpR G cf neg x y h)) := by
  refine pt_imp (pt_cmpR (op_oc C T ow F hr hk neg) ha hb hm) fun σ H Q hq => ?_
  obtain ⟨L, m, h, env, rh, re, kk⟩ := hq
  unfold tru at kk
  rw [bnd_bnd] at kk
  refine ⟨L, m, h, env, rh, re, kk.bind fun m1 H1 x h1 u g1 rh1 rx k1 => ?_⟩
  rw [bnd_bnd] at k1
  refine ⟨L, m1, h1, env, rh1, re.grow g1, k1.bind fun m2 H2 y h2 v g2 rh2 ry k2 => ⟨L, m2, h2, x, y, W, σ, rh2, rx.grow g2, ry, ?_⟩⟩
  cases hc : ocmpR G cf neg x y h2 with
  | bad => rw [hc] at k2; exact k2
  | exc c p h3 => rw [hc] at k2; exact k2
  | ok w h3 =>
    rw [hc] at k2
    obtain ⟨r, rfl⟩ := ocmpR_ok _ _ hc
    intro m' H' u' g' rh' ru
    cases (show u' = .bl r from ru)
    exact ⟨r, rfl, k2 m' H' r g' rh' rfl⟩
end
end Mi
set_option Elab.async false
set_option linter.all false
set_option maxRecDepth 100000
set_option maxHeartbeats 4000000
namespace Mi
open PySem PySem.Spec PyProof.Rows L2
structure Sc where
  N : List Str
  sc : Scope
  fn : Option Scope
structure Nm where
  fns : List (Str × Nat)
  gvs : List (Str × Nat)
  ats : List (Str × Nat) := []
  cls : List (Str × Nat) := []
def Sc.fnB (S : Sc) (x : Str) : Bool := match S.fn with
  | none => true
  | some s => s.names.lookup x == some .cell
def Sc.blk (S : Sc) (scope : Scope) : Sc := ⟨S.N, relS scope S.sc, some scope⟩
def visB (S : Sc) (x : Str) : Bool := match S.sc.names.lookup x with
  | some .local => true
  | some .cell => true
  | some .free => true
  | _ => false
def locB (S : Sc) (x : Str) : Bool := match S.sc.names.lookup x with
  | some .local => true
  | some .cell => S.fnB x
  | _ => false
def glB (S : Sc) (x : Str) : Bool := match S.sc.names.lookup x with
  | some .globalImplicit => true
  | _ => false
def plB (S : Sc) (x : Str) : Bool := match S.sc.names.lookup x with
  | some .local => true
  | _ => false
def okNm (x : Str) : Bool := !(x == ("__debug__" : Str)) && !(x == ("__classdict__" : Str))
def slB (S : Sc) (i : Nat) (x : Str) : Bool := decide (S.N[i]? = some x)
def opB (o : BO) (p : Operator) : Bool := match o, p with
  | .add, .Add => true | .sub, .Sub => true | .mul, .Mult => true | .fdiv, .FloorDiv => true | .mod, .Mod => true | .pow, .Pow => true
  | .shl, .LShift => true | .shr, .RShift => true | .and, .BitAnd => true | .or, .BitOr => true | .xor, .BitXor => true
  | _, _ => false
def cpB (o : CO) (p : CmpOp) : Bool := match o, p with
  | .eq, .Eq => true | .ne, .NotEq => true | .lt, .Lt => true | .le, .LtE => true | .gt, .Gt => true | .ge, .GtE => true
  | .is, .Is => true | .isnot, .IsNot => true | .isin, .In => true | .notin, .NotIn => true
  | _, _ => false
theorem opB_eq {o : BO} {p : Operator} (h : opB o p = true) : p = bo o := by cases o <;> cases p <;> first | rfl | (cases h)
theorem cpB_eq {o : CO} {p : CmpOp} (h : cpB o p = true) : p = co o := by cases o <;> cases p <;> first | rfl | (cases h)
def tgN (S : Sc) (i : Nat) (t : Expr) : Bool := match t with
  | .Name x _ => slB S i x && locB S x
  | _ => false
def chkTs (S : Sc) : List Nat → List Expr → Bool
  | [], [] => true
  | i :: is, t :: ts => tgN S i t && chkTs S is ts
  | _, _ => false
def chkT (S : Sc) (tg : Tg) (e : Expr) : Bool := match tg with
  | .n i => tgN S i e
  | .t is => match e with
    | .Tuple ts _ _ => chkTs S is ts
    | _ => false
def noSet : Expr → Bool
  | .Set _ _ _ => false
  | _ => true
theorem noSet_fold {e : Expr} {env : PySem.Env} (h : noSet e = true) : ∀ x, foldedSetIterable e env x = pure x := by
  intro x
  cases e <;> first | rfl | (cases h)
def plainT : Expr → Bool
  | .UnaryOp .Not _ _ => false
  | .BoolOp _ _ _ => false
  | .IfExp _ _ _ _ => false
  | .Compare _ _ _ _ => false
  | _ => true
theorem plainT_is {e : Expr} {env : PySem.Env} (h : plainT e = true) : ∀ whole, isTrue e env whole = (do let v ← whole; standAt e.pos; holding [v] (truthy v)) := by
  intro w
  cases e <;> first | rfl | (cases h; done) | skip
  rename_i op a pos
  cases op <;> first | rfl | (cases h)
theorem plainIx_of {b : Expr} (h : isSlice b = false) : PlainIx b := by
  intro o i
  cases b <;> first | rfl | (cases h)
def ownP (S : Sc) (own : List Nat) : List (Str × Nat) := own.filterMap fun i => match S.N[i]? with
  | some x => some (x, i)
  | none => none
def tgIn (tg : Tg) (own : List Nat) : Bool := (slots tg).all fun i => own.contains i
mutual
def chkE (D : Nm) (S : Sc) : Ex → Expr → Bool
  | .var i => fun e => match e with
    | .Name x _ => slB S i x && visB S x && okNm x
    | _ => false
  | .int i => fun e => match e with
    | .Constant (.int j) _ _ => decide (i = j)
    | _ => false
  | .bl i => fun e => match e with
    | .Constant (.bool j) _ _ => decide (i = j)
    | _ => false
  | .non => fun e => match e with
    | .Constant .none _ _ => true
    | _ => false
  | .str s => fun e => match e with
    | .Constant (.str x) _ _ => decide (x = ⟨s.toArray⟩)
    | _ => false
  | .gl g => fun e => match e with
    | .Name x _ => glB S x && decide (D.gvs.lookup x = some g) && okNm x
    | _ => false
  | .bin o a b => fun e => match e with
    | .BinOp a' p b' _ => opB o p && chkE D S a a' && chkE D S b b'
    | _ => false
  | .neg a => fun e => match e with
    | .UnaryOp .USub a' _ => chkE D S a a'
    | _ => false
  | .cmp o a b => fun e => match e with
    | .Compare a' [p] [b'] _ => cpB o p && chkE D S a a' && chkE D S b b' && !behindInMarks (co o) b'
    | _ => false
  | .chain o p a b c => fun e => match e with
    | .Compare a' [o', p'] [b', c'] _ => cpB o o' && cpB p p' && chkE D S a a' && chkE D S b b' && chkE D S c c' && !lastMarks [co o, co p] [b', c']
    | _ => false
  | .and a b => fun e => match e with
    | .BoolOp .And [a', b'] _ => chkE D S a a' && chkE D S b b'
    | .BoolOp .And (a' :: b' :: c' :: r) pos => chkE D S a a' && chkE D S b (.BoolOp .And (b' :: c' :: r) pos)
    | _ => false
  | .or a b => fun e => match e with
    | .BoolOp .Or [a', b'] _ => chkE D S a a' && chkE D S b b'
    | .BoolOp .Or (a' :: b' :: c' :: r) pos => chkE D S a a' && chkE D S b (.BoolOp .Or (b' :: c' :: r) pos)
    | _ => false
  | .not a => fun e => match e with
    | .UnaryOp .Not a' _ => chkE D S a a'
    | _ => false
  | .ite c a b => fun e => match e with
    | .IfExp c' a' b' _ => chkE D S c c' && chkE D S a a' && chkE D S b b'
    | _ => false
  | .tup as => fun e => match e with
    | .Tuple es _ _ => chkA D S as es
    | _ => false
  | .fz f => fun e => chkF D S f e && plainT e
  | .th f => fun e => chkF D S f e && plainT e
  | .sub a i => fun e => match e with
    | .Subscript a' i' _ => chkE D S a a' && chkE D S i i' && !isSlice i'
    | _ => false
  | .slc a lo hi => fun e => match e with
    | .Subscript a' (.Slice lo' hi' none _) _ => chkE D S a a' && chkO D S lo lo' && chkO D S hi hi'
    | _ => false
  | .call f as => fun e => match e with
    | .Call (.Name x _) es [] _ => glB S x && decide (D.fns.lookup x = some f) && okNm x && noStars es && chkA D S as es
    | _ => false
  | .callv i as => fun e => match e with
    | .Call (.Name x _) (a :: es) [] _ => slB S i x && visB S x && okNm x && noStars (a :: es) && chkA D S as (a :: es)
    | _ => false
  | .mk c as => fun e => match e with
    | .Call (.Name x _) (a :: es) [] _ => glB S x && decide (D.cls.lookup x = some c) && okNm x && noStars (a :: es) && chkA D S as (a :: es)
    | _ => false
  | .isown c a => fun e => match e with
    | .Call (.Name x _) [a', .Name t _] [] _ => decide (x = Str.ofString "isinstance") && glB S x && glB S t && okNm t && decide (D.cls.lookup t = some c) && !isStar a' && chkE D S a a'
    | _ => false
  | .bif b as => fun e => match e with
    | .Call (.Name x _) (a :: es) [] _ => (decide (x = Str.ofString (bifNm b)) && decide (bifNm b ≠ "") && glB S x && noStars (a :: es) && chkA D S as (a :: es)) ||
        (match es with
        | [.Name t _] => decide (x = Str.ofString "isinstance") && decide (t = Str.ofString (isNm b)) && decide (isNm b ≠ "") && glB S x && glB S t && !isStar a && chkA D S as [a]
        | _ => false)
    | _ => false
  | .mth t o as => fun e => match e with
    | .Call (.Attribute o' x apos) es [] pos => decide (x = Str.ofString (mthNm t)) && chkE D S o o' && plainBase o' && (apos.endLine == pos.line) && (match t, es with
      | .append, [a] => !isStar a && chkA D S as [a]
      | .extend, [a] => !isStar a && chkA D S as [a]
      | .pop1, [a] => !isStar a && chkA D S as [a]
      | .pop0, [] => chkA D S as []
      | .bitlen, [] => chkA D S as []
      | _, _ => false)
    | _ => false
  | .rev a => fun e => match e with
    | .Subscript a' (.Slice none none (some (.UnaryOp .USub (.Constant (.int 1) _ _) _)) _) _ => chkE D S a a'
    | _ => false
  | .dnew => fun e => match e with
    | .Dict [] [] _ => true
    | _ => false
  | .trg as => fun e => match e with
    | .Call (.Name x _) [.Call (.Name y _) [a] [] _] [] _ => decide (x = Str.ofString "tuple") && decide (y = Str.ofString "range") && glB S x && glB S y && !isStar a && chkA D S as [a]
    | _ => false
  | .ocmp neg a b => fun e => match e with
    | .Compare a' [p] [b'] _ => cpB (match neg with | true => .ne | false => .eq) p && chkE D S a a' && chkE D S b b' && !behindInMarks (ocO neg) b'
    | _ => false
  | .attr o f => fun e => match e with
    | .Attribute o' x _ => decide (D.ats.lookup x = some f) && chkE D S o o' && plainBase o'
    | _ => false
  | _ => fun _ => false
def chkA (D : Nm) (S : Sc) : Ex → List Expr → Bool
  | .anil => fun es => match es with
    | [] => true
    | _ => false
  | .acons a r => fun es => match es with
    | e :: es => !isStar e && chkE D S a e && chkA D S r es
    | _ => false
  | .astar a r => fun es => match es with
    | .Starred e _ :: es => chkE D S a e && chkA D S r es
    | _ => false
  | _ => fun _ => false
def chkF (D : Nm) (S : Sc) : Ex → Expr → Bool
  | .disp as => fun e => match e with
    | .List es _ => chkA D S as es
    | _ => false
  | .comp own tg it c el => fun e => match e with
    | .ListComp elt [⟨target, iter, ifs, 0⟩] scope _ => decide ((ownP S own).map (·.2) = own) && blkC S.N S.sc scope (ownP S own) && tgIn tg own && noSet iter && chkT (S.blk scope) tg target && chkW D S it target iter && chkC D (S.blk scope) c ifs && chkE D (S.blk scope) el elt
    | _ => false
  | .listof a => fun e => match e with
    | .Call (.Name x _) [a'] [] _ => decide (x = Str.ofString "list") && glB S x && !isStar a' && chkE D S a a'
    | _ => false
  | .srt rev a => fun e => match e with
    | .Call (.Name x _) [a'] [] _ => decide (x = Str.ofString "sorted") && glB S x && !isStar a' && chkE D S a a' && !rev
    | .Call (.Name x _) [a'] [⟨some k, .Constant (.bool true) _ _, _⟩] _ => decide (x = Str.ofString "sorted") && decide (k = Str.ofString "reverse") && glB S x && !isStar a' && chkE D S a a' && rev
    | _ => false
  | .lrg as => fun e => match e with
    | .Call (.Name x _) [.Call (.Name y _) es [] _] [] _ => decide (x = Str.ofString "list") && decide (y = Str.ofString "range") && glB S x && glB S y && noStars es && chkA D S as es && decide (1 ≤ es.length) && decide (es.length ≤ 2)
    | _ => false
  | .cat a b => fun e => match e with
    | .BinOp a' .Add b' _ => chkE D S a a' && chkE D S b b'
    | _ => false
  | .rep a b => fun e => match e with
    | .BinOp a' .Mult b' _ => chkE D S a a' && chkE D S b b'
    | _ => false
  | .slf a lo hi => fun e => match e with
    | .Subscript a' (.Slice lo' hi' none _) _ => chkE D S a a' && chkO D S lo lo' && chkO D S hi hi'
    | _ => false
  | _ => fun _ => false
def chkW (D : Nm) (S : Sc) : Ex → Expr → Expr → Bool
  | .over a => fun _ e => chkE D S a e
  | .range as => fun _ e => match e with
    | .Call (.Name x _) es [] _ => decide (x = Str.ofString "range") && glB S x && noStars es && chkA D S as es && decide (1 ≤ es.length) && decide (es.length ≤ 3)
    | _ => false
  | .enum a => fun t e => match t, e with
    | .Tuple _ _ _, .Call (.Name x _) [a'] [] _ => decide (x = Str.ofString "enumerate") && glB S x && !isStar a' && chkE D S a a'
    | _, _ => false
  | .zip a b => fun t e => match t, e with
    | .Tuple _ _ _, .Call (.Name x _) [a', b'] [] _ => decide (x = Str.ofString "zip") && glB S x && noStars [a', b'] && chkE D S a a' && chkE D S b b'
    | _, _ => false
  | _ => fun _ _ => false
def chkO (D : Nm) (S : Sc) : Ex → Option Expr → Bool
  | .noe => fun o => match o with
    | none => true
    | _ => false
  | .sm a => fun o => match o with
    | some e => chkE D S a e
    | _ => false
  | _ => fun _ => false
def chkC (D : Nm) (S : Sc) : Ex → List Expr → Bool
  | .noe => fun o => match o with
    | [] => true
    | _ => false
  | .sm a => fun o => match o with
    | [e] => chkE D S a e
    | _ => false
  | _ => fun _ => false
end
end Mi
set_option Elab.async false
set_option linter.all false
set_option maxRecDepth 100000
set_option maxHeartbeats 4000000
namespace Mi
open PySem PySem.Spec PyProof.Rows L2
structure Cs (X : Cx) (Γ : Gm) (W : WX) (k : Nat) (S : Sc) : Prop where
  c : Cn X Γ W
  N : X.N = S.N
  sc : X.env.scope = S.sc
  fn : ∀ x, X.fn x = S.fnB x
  hr : Room k X.A
def bNames : List Str := ["len", "abs", "max", "min", "int", "tuple", "sum", "all", "any", "list", "sorted", "range", "enumerate", "zip", "isinstance", "bool", "str"]
structure Lv (Γ : Gm) (G : GT) (D : Nm) (cf : CF) (k : Nat) : Prop where
  fn : ∀ x f, D.fns.lookup x = some f → Γ.mg x = some (.ref (Γ.fa f))
  fi : ∀ f, FnI Γ cf k f
  gv : ∀ x g, D.gvs.lookup x = some g → ∃ v u w, G.gv g = some v ∧ Γ.mg x = some w ∧ RelV u w ∧ ∀ L m H, RepV Γ L m H v u
  nb : ∀ x, x ∈ bNames → Γ.mg x = none
  ow : ∀ c, Γ.cok c = true → OwnOk Γ c
  fj : ∀ f, FnI Γ cf (k - 1) f
  k1 : 1 ≤ k ∨ ∀ f xs h, cf f xs h = .bad
  kl : Kl Γ G D.ats
  ke : ∀ c, Γ.cok c = true → KlEq Γ G c
  km : ∀ x c, D.cls.lookup x = some c → Γ.mg x = some (.ref (Γ.ca c)) ∧ PySem.W.keepIn Γ.K (.ref (Γ.ca c)) = true ∧ KlMk Γ G c ∧ KlIs Γ c
section
variable {X : Cx} {Γ : Gm} {W : WX} {k : Nat} {S : Sc} {x : Str} {i : Nat}
theorem vis_of (C : Cs X Γ W k S) (h : visB S x = true) : Vis X.env.scope x := by
  unfold visB at h
  rw [← C.sc] at h
  unfold Vis
  split at h
  · rename_i e; exact .inl e
  · rename_i e; exact .inr (.inl e)
  · rename_i e; exact .inr (.inr e)
  · cases h
theorem loc_of (C : Cs X Γ W k S) (h : locB S x = true) : Loc X.env.scope x ∧ (X.fn x = true ∨ X.env.scope.names.lookup x = some .local) := by
  unfold locB at h
  rw [← C.sc] at h
  split at h
  · rename_i e; exact ⟨.inl e, .inr e⟩
  · rename_i e; exact ⟨.inr e, .inl (by rw [C.fn]; exact h)⟩
  · cases h
theorem gl_of (C : Cs X Γ W k S) (h : glB S x = true) : Gl X x := by
  unfold glB at h
  rw [← C.sc] at h
  split at h
  · rename_i e; exact e
  · cases h
theorem pl_of (C : Cs X Γ W k S) (h : plB S x = true) : X.env.scope.names.lookup x = some .local := by
  unfold plB at h
  rw [← C.sc] at h
  split at h
  · rename_i e; exact e
  · cases h
theorem sl_of (C : Cs X Γ W k S) (h : slB S i x = true) : X.N[i]? = some x := by
  rw [C.N]
  exact of_decide_eq_true h
theorem nm_of (h : okNm x = true) : (x == ("__debug__" : Str)) = false ∧ (x == ("__classdict__" : Str)) = false := by
  unfold okNm at h
  simp only [Bool.and_eq_true, Bool.not_eq_true'] at h
  exact h
theorem Cs.blk (C : Cs X Γ W k S) (scope : Scope) (s : Shared) (H : Hp) (A : Addr) (cl : List (Str × Addr)) (fp : List Addr) : Cs (X.blk s H scope (compEnvC scope cl A X.env) fp) Γ W0 k (S.blk scope) := by
  refine ⟨⟨C.c.prog, C.c.w, C.c.K, C.c.mg, C.c.base, C.c.calm, C.c.nd, C.c.un, takes0⟩, C.N, ?_, fun x => rfl, C.hr⟩
  show relabel scope X.env = relS scope S.sc
  rw [← C.sc]
  rfl
theorem tg_one {i : Nat} {e : Expr} (h : tgN S i e = true) : ∀ (Y : Cx) (V : WX), Cs Y Γ V k S → TgOk Y Γ (.n i) e (gName i) := fun Y V CY => by
  unfold tgN at h
  split at h
  · simp only [Bool.and_eq_true] at h
    obtain ⟨a, b⟩ := loc_of CY h.2
    exact tg_name CY.c.nd (sl_of CY h.1) a b
  · cases h
theorem tg_many : ∀ {is : List Nat} {ts : List Expr}, chkTs S is ts = true → ∃ g, (∀ (Y : Cx) (V : WX), Cs Y Γ V k S → TgsOk Y Γ is ts g) ∧ ts.length = is.length ∧ noStars ts = true
  | [], [], _ => ⟨gNil, fun Y V CY => tgs_nil, rfl, rfl⟩
  | [], _ :: _, h => by cases h
  | _ :: _, [], h => by cases h
  | i :: is, t :: ts, h => by
    have h : (tgN S i t && chkTs S is ts) = true := h
    rw [Bool.and_eq_true] at h
    obtain ⟨g, h1, h2, h3⟩ := tg_many h.2
    have hst : isStar t = false := by
      cases t <;> first | rfl | (cases h.1)
    refine ⟨gCons (gName i) g, fun Y V CY => tgs_cons (tg_one h.1 Y V CY) (h1 Y V CY) (fun v σ H Q Q' q f => f _ _ q) hst, congrArg (· + 1) h2, ?_⟩
    unfold noStars
    rw [hst]
    exact h3
theorem tg_of {tg : Tg} {e : Expr} (h : chkT S tg e = true) : ∃ g, ∀ (Y : Cx) (V : WX), Cs Y Γ V k S → TgOk Y Γ tg e g := by
  unfold chkT at h
  split at h
  · exact ⟨_, tg_one h⟩
  · split at h
    · rename_i is _ ts kk pos
      obtain ⟨g, h1, h2, h3⟩ := tg_many (Γ := Γ) (k := k) h
      refine ⟨gTup Γ.K is.length g, fun Y V CY => ?_⟩
      have z := tg_tup CY.c (h1 Y V CY) h2 h3 (k := kk) (pos := pos)
      rw [CY.c.K] at z
      exact z
    · cases h
abbrev Bth (X : Cx) (Γ : Gm) (W : WX) (e : Expr) (ev : Env → Hh → R Vl) : Prop := PE X e (tE Γ W ev) ∧ PT X e (tB' Γ W (tru ev))
theorem bth {e : Expr} {ev : Env → Hh → R Vl} (C : Cs X Γ W k S) (h : PE X e (tE Γ W ev)) (ht : plainT e = true) : Bth X Γ W e ev := ⟨h, t_plain C.c h (plainT_is ht)⟩
end
def AllPE (X : Cx) (Γ : Gm) (W : WX) : List Expr → List (Env → Hh → R Vl) → Prop
  | [], [] => True
  | e :: es, v :: vs => PE X e (tE Γ W v) ∧ AllPE X Γ W es vs
  | _, _ => False
def argsEv : List (Env → Hh → R Vl) → Env → Hh → R (List Vl)
  | [] => fun _ h => .ok [] h
  | v :: vs => fun env h => bnd (v env h) fun x h => bnd (argsEv vs env h) fun xs h => .ok (x :: xs) h
theorem pw_of {X : Cx} {op : PySem.BoolOp} {es : List Expr} {pos : Pos} {t : TT} (h : PT X (.BoolOp op es pos) t) : PW X (.BoolOp op es pos) t := ⟨fun _ pins s σ H Q I hq => h.run pins s σ H Q I hq⟩
theorem tgIn_of {tg : Tg} {own : List Nat} (h : tgIn tg own = true) : ∀ i ∈ slots tg, i ∈ own := fun i hi => by
  unfold tgIn at h
  exact List.contains_iff_mem.mp (List.all_eq_true.mp h i hi)
theorem anil_of {D : Nm} {S : Sc} {x : Ex} (h : chkA D S x [] = true) : x = .anil := by
  cases x <;> first | rfl | (unfold chkA at h; cases h)
theorem ts_nil {X : Cx} {Γ : Gm} {W : WX} : PTs X [] (tB' Γ W fun _ h => .ok true h) := ⟨fun pins s σ H Q I hq => pts_nil.run pins s σ H Q I (by
  obtain ⟨L, m, h, env, rh, re, k⟩ := hq
  exact k.now (u := true) rh rfl)⟩
section
variable {Γ : Gm} {G : GT} {D : Nm} {cf : CF} {k : Nat}
mutual
theorem sndE (V : Lv Γ G D cf k) : ∀ (x : Ex) {X : Cx} {W : WX} {S : Sc} {e : Expr}, Cs X Γ W k S → chkE D S x e = true → Bth X Γ W e (evE G cf x)
  | .var i, X, W, S, e, C, h => by
    unfold chkE at h
    split at h
    · simp only [Bool.and_eq_true] at h
      obtain ⟨⟨h1, h2⟩, h3⟩ := h
      exact bth C (s_var (sl_of C h1) (vis_of C h2) (nm_of h3).1 (nm_of h3).2) rfl
    · cases h
  | .int i, X, W, S, e, C, h => by
    unfold chkE at h
    split at h
    · cases of_decide_eq_true h
      exact bth C (s_const pe_int fun _ _ _ => rfl) rfl
    · cases h
  | .bl i, X, W, S, e, C, h => by
    unfold chkE at h
    split at h
    · cases of_decide_eq_true h
      exact bth C (s_const pe_bl fun _ _ _ => rfl) rfl
    · cases h
  | .non, X, W, S, e, C, h => by
    unfold chkE at h
    split at h
    · exact bth C (s_const pe_non fun _ _ _ => rfl) rfl
    · cases h
  | .str s, X, W, S, e, C, h => by
    unfold chkE at h
    split at h
    · cases of_decide_eq_true h
      exact bth C (s_const pe_str fun _ _ _ => rfl) rfl
    · cases h
  | .gl g, X, W, S, e, C, h => by
    unfold chkE at h
    split at h
    · rename_i x pos
      simp only [Bool.and_eq_true] at h
      obtain ⟨⟨h1, h2⟩, h3⟩ := h
      obtain ⟨v, u, w, e1, e2, e3, e4⟩ := V.gv _ g (of_decide_eq_true h2)
      rw [← C.c.mg] at e2
      have q : PE X (.Name x pos) (tE Γ W fun _ h => .ok v h) := s_const (pe_glob (gl_of C h1) e2 e3 (nm_of h3).1) e4
      have z : evE G cf (.gl g) = fun _ h => .ok v h := by
        funext env h
        show lift (G.gv g) h = _
        rw [e1]
        rfl
      rw [z]
      exact bth C q rfl
    · cases h
  | .bin o a b, X, W, S, e, C, h => by
    unfold chkE at h
    split at h
    · simp only [Bool.and_eq_true] at h
      obtain ⟨⟨h1, h2⟩, h3⟩ := h
      cases opB_eq h1
      exact bth C (s_bin C.c o (sndE V a C h2).1 (sndE V b C h3).1) rfl
    · cases h
  | .neg a, X, W, S, e, C, h => by
    unfold chkE at h
    split at h
    · exact bth C (s_neg (sndE V a C h).1) rfl
    · cases h
  | .cmp o a b, X, W, S, e, C, h => by
    unfold chkE at h
    split at h
    · simp only [Bool.and_eq_true, Bool.not_eq_true'] at h
      obtain ⟨⟨⟨h1, h2⟩, h3⟩, h4⟩ := h
      cases cpB_eq h1
      exact ⟨s_cmp C.c o (sndE V a C h2).1 (sndE V b C h3).1 h4, t_cmp C.c o (sndE V a C h2).1 (sndE V b C h3).1 h4⟩
    · cases h
  | .chain o p a b c, X, W, S, e, C, h => by
    unfold chkE at h
    split at h
    · simp only [Bool.and_eq_true, Bool.not_eq_true'] at h
      obtain ⟨⟨⟨⟨⟨h1, h2⟩, h3⟩, h4⟩, h5⟩, h6⟩ := h
      cases cpB_eq h1
      cases cpB_eq h2
      exact ⟨s_chain C.c o p (sndE V a C h3).1 (sndE V b C h4).1 (sndE V c C h5).1 h6, t_chain C.c o p (sndE V a C h3).1 (sndE V b C h4).1 (sndE V c C h5).1 h6⟩
    · cases h
  | .and a b, X, W, S, e, C, h => by
    have q := fun {e} => sndE V b (X := X) (W := W) (S := S) (e := e) C
    unfold chkE at h
    split at h
    · simp only [Bool.and_eq_true] at h
      have qa := sndE V a C h.1
      have qb := sndE V b C h.2
      exact ⟨s_and qa.1 (s_and1 qb.1), (w_and qa.2 (w_and1 qb.2)).pt⟩
    · simp only [Bool.and_eq_true] at h
      have qa := sndE V a C h.1
      have qb := q h.2
      exact ⟨s_and qa.1 qb.1, (w_and qa.2 (pw_of qb.2)).pt⟩
    · cases h
  | .or a b, X, W, S, e, C, h => by
    have q := fun {e} => sndE V b (X := X) (W := W) (S := S) (e := e) C
    unfold chkE at h
    split at h
    · simp only [Bool.and_eq_true] at h
      have qa := sndE V a C h.1
      have qb := sndE V b C h.2
      exact ⟨s_or qa.1 (s_or1 qb.1), (w_or qa.2 (w_or1 qb.2)).pt⟩
    · simp only [Bool.and_eq_true] at h
      have qa := sndE V a C h.1
      have qb := q h.2
      exact ⟨s_or qa.1 qb.1, (w_or qa.2 (pw_of qb.2)).pt⟩
    · cases h
  | .not a, X, W, S, e, C, h => by
    unfold chkE at h
    split at h
    · exact ⟨s_not C.c (sndE V a C h).1, t_not (sndE V a C h).2⟩
    · cases h
  | .ite c a b, X, W, S, e, C, h => by
    unfold chkE at h
    split at h
    · simp only [Bool.and_eq_true] at h
      obtain ⟨⟨h1, h2⟩, h3⟩ := h
      exact ⟨s_ite (sndE V c C h1).2 (sndE V a C h2).1 (sndE V b C h3).1, t_ite (sndE V c C h1).2 (sndE V a C h2).2 (sndE V b C h3).2⟩
    · cases h
  | .tup as, X, W, S, e, C, h => by
    unfold chkE at h
    split at h
    · exact bth C (s_tup (sndA V as C h)) rfl
    · cases h
  | .fz f, X, W, S, e, C, h => by
    unfold chkE at h
    simp only [Bool.and_eq_true] at h
    exact bth C (s_fz (sndF V f C h.1)) h.2
  | .th f, X, W, S, e, C, h => by
    unfold chkE at h
    simp only [Bool.and_eq_true] at h
    exact bth C (s_th (sndF V f C h.1)) h.2
  | .sub a i, X, W, S, e, C, h => by
    unfold chkE at h
    split at h
    · simp only [Bool.and_eq_true, Bool.not_eq_true'] at h
      obtain ⟨⟨h1, h2⟩, h3⟩ := h
      exact bth C (s_sub C.c (sndE V a C h1).1 (sndE V i C h2).1 (plainIx_of h3)) rfl
    · cases h
  | .slc a lo hi, X, W, S, e, C, h => by
    unfold chkE at h
    split at h
    · simp only [Bool.and_eq_true] at h
      obtain ⟨⟨h1, h2⟩, h3⟩ := h
      exact bth C (s_slc C.c (sndE V a C h1).1 (sndO V lo C h2) (sndO V hi C h3)) rfl
    · cases h
  | .call f as, X, W, S, e, C, h => by
    unfold chkE at h
    split at h
    · simp only [Bool.and_eq_true] at h
      obtain ⟨⟨⟨⟨h1, h2⟩, h3⟩, h4⟩, h5⟩ := h
      have hm := V.fn _ f (of_decide_eq_true h2)
      rename_i x p es pos
      cases es with
      | nil =>
        have e := anil_of h5
        subst e
        exact bth C (s_call0 C.c (V.fi f) C.hr (gl_of C h1) hm (nm_of h3).1) rfl
      | cons e es => exact bth C (s_call C.c (V.fi f) C.hr (gl_of C h1) hm (nm_of h3).1 (sndA V as C h5) h4) rfl
    · cases h
  | .callv i as, X, W, S, e, C, h => by
    unfold chkE at h
    split at h
    · simp only [Bool.and_eq_true] at h
      obtain ⟨⟨⟨⟨h1, h2⟩, h3⟩, h4⟩, h5⟩ := h
      exact bth C (s_callv C.c V.fi C.hr (sl_of C h1) (vis_of C h2) (nm_of h3).1 (nm_of h3).2 (sndA V as C h5) h4) rfl
    · cases h
  | .mk c as, X, W, S, e, C, h => by
    have qa := fun {es} => sndA V as (X := X) (W := W) (S := S) (es := es) C
    unfold chkE at h
    split at h
    · simp only [Bool.and_eq_true] at h
      obtain ⟨⟨⟨⟨h1, h2⟩, h3⟩, h4⟩, h5⟩ := h
      obtain ⟨m1, m2, m3, _⟩ := V.km _ _ (of_decide_eq_true h2)
      exact bth C (s_mk C.c V.fj C.hr V.k1 m3 (gl_of C h1) m1 (nm_of h3).1 m2 (qa h5) h4) rfl
    · cases h
  | .bif b as, X, W, S, e, C, h => by
    have qa := fun {es} => sndA V as (X := X) (W := W) (S := S) (es := es) C
    have qx := fun {es} => sndX V as (X := X) (W := W) (S := S) (es := es) C
    unfold chkE at h
    split at h
    · rename_i x p a es pos
      rw [Bool.or_eq_true] at h
      rcases h with h | h
      · simp only [Bool.and_eq_true] at h
        obtain ⟨⟨⟨⟨h1, h2⟩, h3⟩, h4⟩, h5⟩ := h
        cases of_decide_eq_true h1
        have hb : bifNm b ≠ "" := of_decide_eq_true h2
        have hn : Str.ofString (bifNm b) ∈ bNames := by cases b <;> first | exact absurd rfl hb | decide
        exact bth C (s_bif C.c (gl_of C h3) hb (V.nb _ hn) (qa h5) h4) rfl
      · split at h
        · rename_i t p2
          simp only [Bool.and_eq_true, Bool.not_eq_true'] at h
          obtain ⟨⟨⟨⟨⟨⟨h1, h2⟩, h3⟩, h4⟩, h5⟩, h6⟩, h7⟩ := h
          cases of_decide_eq_true h1
          cases of_decide_eq_true h2
          have hb : isNm b ≠ "" := of_decide_eq_true h3
          have hn : Str.ofString (isNm b) ∈ bNames := by cases b <;> first | exact absurd rfl hb | decide
          obtain ⟨evs, e1, e2⟩ := qx (by unfold noStars; rw [h6]; rfl) h7
          cases evs with
          | nil => exact e1.elim
          | cons ea r => cases r with
            | cons _ _ => exact e1.2.elim
            | nil =>
              have z : evE G cf (.bif b as) = fun env h => bnd (evA G cf as env h) fun xs h => lift (bifV b h xs) h := rfl
              rw [z, e2]
              exact bth C (s_is C.c hb V.ow (gl_of C h4) (V.nb _ (by decide)) (gl_of C h5) (V.nb _ hn) e1.1 h6) rfl
        · cases h
    · cases h
  | .mth t o as, X, W, S, e, C, h => by
    have qo := fun {e} => sndE V o (X := X) (W := W) (S := S) (e := e) C
    have qa := fun {es} => sndA V as (X := X) (W := W) (S := S) (es := es) C
    unfold chkE at h
    split at h
    · rename_i o' x apos es pos
      simp only [Bool.and_eq_true] at h
      obtain ⟨⟨⟨⟨h1, h2⟩, h3⟩, h4⟩, h5⟩ := h
      cases of_decide_eq_true h1
      split at h5
      · simp only [Bool.and_eq_true, Bool.not_eq_true'] at h5
        exact bth C (s_mth C.c (t := .append) (.inl rfl) (qo h2).1 (qa h5.2) h3 h4 h5.1) rfl
      · simp only [Bool.and_eq_true, Bool.not_eq_true'] at h5
        exact bth C (s_mth C.c (t := .extend) (.inr (.inl rfl)) (qo h2).1 (qa h5.2) h3 h4 h5.1) rfl
      · simp only [Bool.and_eq_true, Bool.not_eq_true'] at h5
        exact bth C (s_mth C.c (t := .pop1) (.inr (.inr rfl)) (qo h2).1 (qa h5.2) h3 h4 h5.1) rfl
      · have e := anil_of h5
        subst e
        exact bth C (s_pop C.c (qo h2).1 h3 h4) rfl
      · have e := anil_of h5
        subst e
        exact bth C (s_bits (qo h2).1 h3 h4) rfl
      · cases h5
    · cases h
  | .attr o f, X, W, S, e, C, h => by
    have qo := fun {e} => sndE V o (X := X) (W := W) (S := S) (e := e) C
    unfold chkE at h
    split at h
    · simp only [Bool.and_eq_true] at h
      obtain ⟨⟨h1, h2⟩, h3⟩ := h
      exact bth C (s_attr C.c V.kl V.fj C.hr V.k1 (of_decide_eq_true h1) (qo h2).1 (base_plain h3)) rfl
    · cases h
  | .ocmp neg a b, X, W, S, e, C, h => by
    have qa := fun {e} => sndE V a (X := X) (W := W) (S := S) (e := e) C
    have qb := fun {e} => sndE V b (X := X) (W := W) (S := S) (e := e) C
    unfold chkE at h
    split at h
    · simp only [Bool.and_eq_true, Bool.not_eq_true'] at h
      obtain ⟨⟨⟨h1, h2⟩, h3⟩, h4⟩ := h
      cases neg with
      | true =>
        cases cpB_eq h1
        exact ⟨s_ocmp C.c V.ke V.ow V.fj C.hr V.k1 true (qa h2).1 (qb h3).1 h4, t_ocmp C.c V.ke V.ow V.fj C.hr V.k1 true (qa h2).1 (qb h3).1 h4⟩
      | false =>
        cases cpB_eq h1
        exact ⟨s_ocmp C.c V.ke V.ow V.fj C.hr V.k1 false (qa h2).1 (qb h3).1 h4, t_ocmp C.c V.ke V.ow V.fj C.hr V.k1 false (qa h2).1 (qb h3).1 h4⟩
    · cases h
  | .isown c a, X, W, S, e, C, h => by
    have qo := fun {e} => sndE V a (X := X) (W := W) (S := S) (e := e) C
    unfold chkE at h
    split at h
    · simp only [Bool.and_eq_true, Bool.not_eq_true'] at h
      obtain ⟨⟨⟨⟨⟨⟨h1, h2⟩, h3⟩, h4⟩, h5⟩, h6⟩, h7⟩ := h
      cases of_decide_eq_true h1
      obtain ⟨m1, _, _, m4⟩ := V.km _ _ (of_decide_eq_true h5)
      exact bth C (s_isown C.c V.ow m4 (gl_of C h2) (V.nb _ (by decide)) (gl_of C h3) m1 (nm_of h4).1 (qo h7).1 h6) rfl
    · cases h
  | .lrg _, X, W, S, e, C, h => by
    unfold chkE at h
    cases h
  | .rev a, X, W, S, e, C, h => by
    unfold chkE at h
    split at h
    · exact bth C (s_rev C.c (sndE V a C h).1) rfl
    · cases h
  | .dnew, X, W, S, e, C, h => by
    unfold chkE at h
    split at h
    · exact bth C s_dnew rfl
    · cases h
  | .trg as, X, W, S, e, C, h => by
    have qx := fun {es} => sndX V as (X := X) (W := W) (S := S) (es := es) C
    unfold chkE at h
    split at h
    · simp only [Bool.and_eq_true, Bool.not_eq_true'] at h
      obtain ⟨⟨⟨⟨⟨h1, h2⟩, h3⟩, h4⟩, h5⟩, h6⟩ := h
      cases of_decide_eq_true h1
      cases of_decide_eq_true h2
      obtain ⟨evs, e1, e2⟩ := qx (by unfold noStars; rw [h5]; rfl) h6
      cases evs with
      | nil => exact e1.elim
      | cons ea r => cases r with
        | cons _ _ => exact e1.2.elim
        | nil =>
          have z : evE G cf (.trg as) = fun env h => bnd (evA G cf as env h) trgR := rfl
          rw [z, e2]
          exact bth C (s_trg1 C.c (gl_of C h3) (V.nb _ (by decide)) (gl_of C h4) (V.nb _ (by decide)) e1.1 h5) rfl
    · cases h
  | .anil, X, W, S, e, C, h => by
    unfold chkE at h
    cases h
  | .acons _ _, X, W, S, e, C, h => by
    unfold chkE at h
    cases h
  | .astar _ _, X, W, S, e, C, h => by
    unfold chkE at h
    cases h
  | .disp _, X, W, S, e, C, h => by
    unfold chkE at h
    cases h
  | .comp _ _ _ _ _, X, W, S, e, C, h => by
    unfold chkE at h
    cases h
  | .listof _, X, W, S, e, C, h => by
    unfold chkE at h
    cases h
  | .srt _ _, X, W, S, e, C, h => by
    unfold chkE at h
    cases h
  | .cat _ _, X, W, S, e, C, h => by
    unfold chkE at h
    cases h
  | .rep _ _, X, W, S, e, C, h => by
    unfold chkE at h
    cases h
  | .slf _ _ _, X, W, S, e, C, h => by
    unfold chkE at h
    cases h
  | .over _, X, W, S, e, C, h => by
    unfold chkE at h
    cases h
  | .range _, X, W, S, e, C, h => by
    unfold chkE at h
    cases h
  | .enum _, X, W, S, e, C, h => by
    unfold chkE at h
    cases h
  | .zip _ _, X, W, S, e, C, h => by
    unfold chkE at h
    cases h
  | .noe, X, W, S, e, C, h => by
    unfold chkE at h
    cases h
  | .sm _, X, W, S, e, C, h => by
    unfold chkE at h
    cases h
theorem sndA (V : Lv Γ G D cf k) : ∀ (x : Ex) {X : Cx} {W : WX} {S : Sc} {es : List Expr}, Cs X Γ W k S → chkA D S x es = true → PA X es (tL Γ W (evA G cf x))
  | .anil, X, W, S, e, C, h => by
    unfold chkA at h
    split at h
    · exact a_nil
    · cases h
  | .acons a r, X, W, S, e, C, h => by
    unfold chkA at h
    split at h
    · simp only [Bool.and_eq_true, Bool.not_eq_true'] at h
      obtain ⟨⟨h1, h2⟩, h3⟩ := h
      exact a_cons (sndE V a C h2).1 (sndA V r C h3) (star_cons h1)
    · cases h
  | .astar a r, X, W, S, e, C, h => by
    unfold chkA at h
    split at h
    · simp only [Bool.and_eq_true] at h
      exact a_star C.c (sndE V a C h.1).1 (sndA V r C h.2)
    · cases h
  | .var _, X, W, S, e, C, h => by
    unfold chkA at h
    cases h
  | .int _, X, W, S, e, C, h => by
    unfold chkA at h
    cases h
  | .bl _, X, W, S, e, C, h => by
    unfold chkA at h
    cases h
  | .non, X, W, S, e, C, h => by
    unfold chkA at h
    cases h
  | .str _, X, W, S, e, C, h => by
    unfold chkA at h
    cases h
  | .gl _, X, W, S, e, C, h => by
    unfold chkA at h
    cases h
  | .bin _ _ _, X, W, S, e, C, h => by
    unfold chkA at h
    cases h
  | .neg _, X, W, S, e, C, h => by
    unfold chkA at h
    cases h
  | .cmp _ _ _, X, W, S, e, C, h => by
    unfold chkA at h
    cases h
  | .chain _ _ _ _ _, X, W, S, e, C, h => by
    unfold chkA at h
    cases h
  | .and _ _, X, W, S, e, C, h => by
    unfold chkA at h
    cases h
  | .or _ _, X, W, S, e, C, h => by
    unfold chkA at h
    cases h
  | .not _, X, W, S, e, C, h => by
    unfold chkA at h
    cases h
  | .ite _ _ _, X, W, S, e, C, h => by
    unfold chkA at h
    cases h
  | .tup _, X, W, S, e, C, h => by
    unfold chkA at h
    cases h
  | .fz _, X, W, S, e, C, h => by
    unfold chkA at h
    cases h
  | .th _, X, W, S, e, C, h => by
    unfold chkA at h
    cases h
  | .sub _ _, X, W, S, e, C, h => by
    unfold chkA at h
    cases h
  | .slc _ _ _, X, W, S, e, C, h => by
    unfold chkA at h
    cases h
  | .call _ _, X, W, S, e, C, h => by
    unfold chkA at h
    cases h
  | .callv _ _, X, W, S, e, C, h => by
    unfold chkA at h
    cases h
  | .mk _ _, X, W, S, e, C, h => by
    unfold chkA at h
    cases h
  | .bif _ _, X, W, S, e, C, h => by
    unfold chkA at h
    cases h
  | .mth _ _ _, X, W, S, e, C, h => by
    unfold chkA at h
    cases h
  | .ocmp _ _ _, X, W, S, e, C, h => by
    unfold chkA at h
    cases h
  | .isown _ _, X, W, S, e, C, h => by
    unfold chkA at h
    cases h
  | .attr _ _, X, W, S, e, C, h => by
    unfold chkA at h
    cases h
  | .rev _, X, W, S, e, C, h => by
    unfold chkA at h
    cases h
  | .dnew, X, W, S, e, C, h => by
    unfold chkA at h
    cases h
  | .trg _, X, W, S, e, C, h => by
    unfold chkA at h
    cases h
  | .lrg _, X, W, S, e, C, h => by
    unfold chkA at h
    cases h
  | .disp _, X, W, S, e, C, h => by
    unfold chkA at h
    cases h
  | .comp _ _ _ _ _, X, W, S, e, C, h => by
    unfold chkA at h
    cases h
  | .listof _, X, W, S, e, C, h => by
    unfold chkA at h
    cases h
  | .srt _ _, X, W, S, e, C, h => by
    unfold chkA at h
    cases h
  | .cat _ _, X, W, S, e, C, h => by
    unfold chkA at h
    cases h
  | .rep _ _, X, W, S, e, C, h => by
    unfold chkA at h
    cases h
  | .slf _ _ _, X, W, S, e, C, h => by
    unfold chkA at h
    cases h
  | .over _, X, W, S, e, C, h => by
    unfold chkA at h
    cases h
  | .range _, X, W, S, e, C, h => by
    unfold chkA at h
    cases h
  | .enum _, X, W, S, e, C, h => by
    unfold chkA at h
    cases h
  | .zip _ _, X, W, S, e, C, h => by
    unfold chkA at h
    cases h
  | .noe, X, W, S, e, C, h => by
    unfold chkA at h
    cases h
  | .sm _, X, W, S, e, C, h => by
    unfold chkA at h
    cases h
theorem sndX (V : Lv Γ G D cf k) : ∀ (x : Ex) {X : Cx} {W : WX} {S : Sc} {es : List Expr}, Cs X Γ W k S → noStars es = true → chkA D S x es = true → ∃ evs, AllPE X Γ W es evs ∧ evA G cf x = argsEv evs
  | .anil, X, W, S, e, C, hn, h => by
    unfold chkA at h
    split at h
    · exact ⟨[], trivial, rfl⟩
    · cases h
  | .acons a r, X, W, S, e, C, hn, h => by
    unfold chkA at h
    split at h
    · simp only [Bool.and_eq_true, Bool.not_eq_true'] at h
      obtain ⟨⟨h1, h2⟩, h3⟩ := h
      obtain ⟨evs, e1, e2⟩ := sndX V r C (noStars_cons hn).2 h3
      refine ⟨evE G cf a :: evs, ⟨(sndE V a C h2).1, e1⟩, ?_⟩
      show (fun env h => bnd (evE G cf a env h) fun x h => bnd (evA G cf r env h) fun xs h => .ok (x :: xs) h) = _
      rw [e2]
      rfl
    · cases h
  | .astar a r, X, W, S, e, C, hn, h => by
    unfold chkA at h
    split at h
    · cases (noStars_cons hn).1
    · cases h
  | .var _, X, W, S, e, C, hn, h => by
    unfold chkA at h
    cases h
  | .int _, X, W, S, e, C, hn, h => by
    unfold chkA at h
    cases h
  | .bl _, X, W, S, e, C, hn, h => by
    unfold chkA at h
    cases h
  | .non, X, W, S, e, C, hn, h => by
    unfold chkA at h
    cases h
  | .str _, X, W, S, e, C, hn, h => by
    unfold chkA at h
    cases h
  | .gl _, X, W, S, e, C, hn, h => by
    unfold chkA at h
    cases h
  | .bin _ _ _, X, W, S, e, C, hn, h => by
    unfold chkA at h
    cases h
  | .neg _, X, W, S, e, C, hn, h => by
    unfold chkA at h
    cases h
  | .cmp _ _ _, X, W, S, e, C, hn, h => by
    unfold chkA at h
    cases h
  | .chain _ _ _ _ _, X, W, S, e, C, hn, h => by
    unfold chkA at h
    cases h
  | .and _ _, X, W, S, e, C, hn, h => by
    unfold chkA at h
    cases h
  | .or _ _, X, W, S, e, C, hn, h => by
    unfold chkA at h
    cases h
  | .not _, X, W, S, e, C, hn, h => by
    unfold chkA at h
    cases h
  | .ite _ _ _, X, W, S, e, C, hn, h => by
    unfold chkA at h
    cases h
  | .tup _, X, W, S, e, C, hn, h => by
    unfold chkA at h
    cases h
  | .fz _, X, W, S, e, C, hn, h => by
    unfold chkA at h
    cases h
  | .th _, X, W, S, e, C, hn, h => by
    unfold chkA at h
    cases h
  | .sub _ _, X, W, S, e, C, hn, h => by
    unfold chkA at h
    cases h
  | .slc _ _ _, X, W, S, e, C, hn, h => by
    unfold chkA at h
    cases h
  | .call _ _, X, W, S, e, C, hn, h => by
    unfold chkA at h
    cases h
  | .callv _ _, X, W, S, e, C, hn, h => by
    unfold chkA at h
    cases h
  | .mk _ _, X, W, S, e, C, hn, h => by
    unfold chkA at h
    cases h
  | .bif _ _, X, W, S, e, C, hn, h => by
    unfold chkA at h
    cases h
  | .mth _ _ _, X, W, S, e, C, hn, h => by
    unfold chkA at h
    cases h
  | .ocmp _ _ _, X, W, S, e, C, hn, h => by
    unfold chkA at h
    cases h
  | .isown _ _, X, W, S, e, C, hn, h => by
    unfold chkA at h
    cases h
  | .attr _ _, X, W, S, e, C, hn, h => by
    unfold chkA at h
    cases h
  | .rev _, X, W, S, e, C, hn, h => by
    unfold chkA at h
    cases h
  | .dnew, X, W, S, e, C, hn, h => by
    unfold chkA at h
    cases h
  | .trg _, X, W, S, e, C, hn, h => by
    unfold chkA at h
    cases h
  | .lrg _, X, W, S, e, C, hn, h => by
    unfold chkA at h
    cases h
  | .disp _, X, W, S, e, C, hn, h => by
    unfold chkA at h
    cases h
  | .comp _ _ _ _ _, X, W, S, e, C, hn, h => by
    unfold chkA at h
    cases h
  | .listof _, X, W, S, e, C, hn, h => by
    unfold chkA at h
    cases h
  | .srt _ _, X, W, S, e, C, hn, h => by
    unfold chkA at h
    cases h
  | .cat _ _, X, W, S, e, C, hn, h => by
    unfold chkA at h
    cases h
  | .rep _ _, X, W, S, e, C, hn, h => by
    unfold chkA at h
    cases h
  | .slf _ _ _, X, W, S, e, C, hn, h => by
    unfold chkA at h
    cases h
  | .over _, X, W, S, e, C, hn, h => by
    unfold chkA at h
    cases h
  | .range _, X, W, S, e, C, hn, h => by
    unfold chkA at h
    cases h
  | .enum _, X, W, S, e, C, hn, h => by
    unfold chkA at h
    cases h
  | .zip _ _, X, W, S, e, C, hn, h => by
    unfold chkA at h
    cases h
  | .noe, X, W, S, e, C, hn, h => by
    unfold chkA at h
    cases h
  | .sm _, X, W, S, e, C, hn, h => by
    unfold chkA at h
    cases h
theorem sndF (V : Lv Γ G D cf k) : ∀ (x : Ex) {X : Cx} {W : WX} {S : Sc} {e : Expr}, Cs X Γ W k S → chkF D S x e = true → PE X e (tF Γ W (evF G cf x))
  | .disp as, X, W, S, e, C, h => by
    unfold chkF at h
    split at h
    · exact f_disp (sndA V as C h)
    · cases h
  | .comp own tg it c el, X, W, S, e, C, h => by
    have qw := fun {t e} => sndW V it (X := X) (W := W) (S := S) (t := t) (e := e) C
    have qc := fun {Y S e} (CY : Cs Y Γ W0 k S) => sndC V c (X := Y) (W := W0) (S := S) (es := e) CY
    have qe := fun {Y S e} (CY : Cs Y Γ W0 k S) => sndE V el (X := Y) (W := W0) (S := S) (e := e) CY
    unfold chkF at h
    split at h
    · simp only [Bool.and_eq_true] at h
      obtain ⟨⟨⟨⟨⟨⟨⟨h1, h2⟩, h3⟩, h4⟩, h5⟩, h6⟩, h7⟩, h8⟩ := h
      have h1 := of_decide_eq_true h1
      obtain ⟨g, hg⟩ := tg_of (Γ := Γ) (k := k) h5
      have z := f_comp (own := ownP S own) (pos := by assumption) C.c (qw h6) (by rw [C.N, C.sc]; exact blkOk_by h2) (fun s H A cl fp => hg _ _ (C.blk _ s H A cl fp)) (fun s H A cl fp => qc (C.blk _ s H A cl fp) h7) (fun s H A cl fp => (qe (C.blk _ s H A cl fp) h8).1) (by rw [h1]; exact tgIn_of h3) (noSet_fold h4)
      rw [h1] at z
      exact z
    · cases h
  | .listof a, X, W, S, e, C, h => by
    unfold chkF at h
    split at h
    · simp only [Bool.and_eq_true, Bool.not_eq_true'] at h
      obtain ⟨⟨⟨h1, h2⟩, h3⟩, h4⟩ := h
      cases of_decide_eq_true h1
      exact f_list C.c (gl_of C h2) (V.nb _ (by decide)) (sndE V a C h4).1 h3
    · cases h
  | .srt rev a, X, W, S, e, C, h => by
    have qa := fun {e} => sndE V a (X := X) (W := W) (S := S) (e := e) C
    unfold chkF at h
    split at h
    · simp only [Bool.and_eq_true, Bool.not_eq_true'] at h
      obtain ⟨⟨⟨⟨h1, h2⟩, h3⟩, h4⟩, h5⟩ := h
      cases of_decide_eq_true h1
      subst h5
      exact f_sorted2 C.c (gl_of C h2) (V.nb _ (by decide)) (qa h4).1 h3
    · simp only [Bool.and_eq_true, Bool.not_eq_true'] at h
      obtain ⟨⟨⟨⟨⟨h1, h2⟩, h3⟩, h4⟩, h5⟩, h6⟩ := h
      cases of_decide_eq_true h1
      cases of_decide_eq_true h2
      subst h6
      exact f_sortedR2 C.c (gl_of C h3) (V.nb _ (by decide)) (qa h5).1 h4
    · cases h
  | .lrg as, X, W, S, e, C, h => by
    have qx := fun {es} => sndX V as (X := X) (W := W) (S := S) (es := es) C
    unfold chkF at h
    split at h
    · rename_i x p1 y p2 es p3 p4
      simp only [Bool.and_eq_true] at h
      obtain ⟨⟨⟨⟨⟨⟨⟨h1, h2⟩, h3⟩, h4⟩, h5⟩, h6⟩, h7⟩, h8⟩ := h
      cases of_decide_eq_true h1
      cases of_decide_eq_true h2
      obtain ⟨evs, e1, e2⟩ := qx h5 h6
      have z : evF G cf (.lrg as) = fun env h => bnd (evA G cf as env h) fun xs h => lift (rngL xs) h := rfl
      rw [z, e2]
      have l5 := of_decide_eq_true h7
      have l6 := of_decide_eq_true h8
      match es, evs, e1, h5, l5, l6 with
      | [a], [ea], e1, h5, _, _ => exact f_lrg1 (e1 := a) C.c (gl_of C h3) (V.nb _ (by decide)) (gl_of C h4) (V.nb _ (by decide)) e1.1 (noStars_cons h5).1
      | [a, b], [ea, eb], e1, h5, _, _ => exact f_lrg2 C.c (gl_of C h3) (V.nb _ (by decide)) (gl_of C h4) (V.nb _ (by decide)) e1.1 e1.2.1 h5
      | [], _, _, _, l5, _ => exact absurd l5 (by decide)
      | _ :: _ :: _ :: _, _, _, _, _, l6 => exact absurd l6 (by simp)
      | [_], [], e1, _, _, _ => exact e1.elim
      | [_], _ :: _ :: _, e1, _, _, _ => exact e1.2.elim
      | [_, _], [], e1, _, _, _ => exact e1.elim
      | [_, _], [_], e1, _, _, _ => exact e1.2.elim
      | [_, _], _ :: _ :: _ :: _, e1, _, _, _ => exact e1.2.2.elim
    · cases h
  | .cat a b, X, W, S, e, C, h => by
    unfold chkF at h
    split at h
    · simp only [Bool.and_eq_true] at h
      exact s_cat C.c (sndE V a C h.1).1 (sndE V b C h.2).1
    · cases h
  | .rep a b, X, W, S, e, C, h => by
    unfold chkF at h
    split at h
    · simp only [Bool.and_eq_true] at h
      exact s_rep C.c (sndE V a C h.1).1 (sndE V b C h.2).1
    · cases h
  | .slf a lo hi, X, W, S, e, C, h => by
    unfold chkF at h
    split at h
    · simp only [Bool.and_eq_true] at h
      obtain ⟨⟨h1, h2⟩, h3⟩ := h
      exact f_slf C.c (sndE V a C h1).1 (sndO V lo C h2) (sndO V hi C h3)
    · cases h
  | .var _, X, W, S, e, C, h => by
    unfold chkF at h
    cases h
  | .int _, X, W, S, e, C, h => by
    unfold chkF at h
    cases h
  | .bl _, X, W, S, e, C, h => by
    unfold chkF at h
    cases h
  | .non, X, W, S, e, C, h => by
    unfold chkF at h
    cases h
  | .str _, X, W, S, e, C, h => by
    unfold chkF at h
    cases h
  | .gl _, X, W, S, e, C, h => by
    unfold chkF at h
    cases h
  | .bin _ _ _, X, W, S, e, C, h => by
    unfold chkF at h
    cases h
  | .neg _, X, W, S, e, C, h => by
    unfold chkF at h
    cases h
  | .cmp _ _ _, X, W, S, e, C, h => by
    unfold chkF at h
    cases h
  | .chain _ _ _ _ _, X, W, S, e, C, h => by
    unfold chkF at h
    cases h
  | .and _ _, X, W, S, e, C, h => by
    unfold chkF at h
    cases h
  | .or _ _, X, W, S, e, C, h => by
    unfold chkF at h
    cases h
  | .not _, X, W, S, e, C, h => by
    unfold chkF at h
    cases h
  | .ite _ _ _, X, W, S, e, C, h => by
    unfold chkF at h
    cases h
  | .tup _, X, W, S, e, C, h => by
    unfold chkF at h
    cases h
  | .fz _, X, W, S, e, C, h => by
    unfold chkF at h
    cases h
  | .th _, X, W, S, e, C, h => by
    unfold chkF at h
    cases h
  | .sub _ _, X, W, S, e, C, h => by
    unfold chkF at h
    cases h
  | .slc _ _ _, X, W, S, e, C, h => by
    unfold chkF at h
    cases h
  | .call _ _, X, W, S, e, C, h => by
    unfold chkF at h
    cases h
  | .callv _ _, X, W, S, e, C, h => by
    unfold chkF at h
    cases h
  | .mk _ _, X, W, S, e, C, h => by
    unfold chkF at h
    cases h
  | .bif _ _, X, W, S, e, C, h => by
    unfold chkF at h
    cases h
  | .mth _ _ _, X, W, S, e, C, h => by
    unfold chkF at h
    cases h
  | .ocmp _ _ _, X, W, S, e, C, h => by
    unfold chkF at h
    cases h
  | .isown _ _, X, W, S, e, C, h => by
    unfold chkF at h
    cases h
  | .attr _ _, X, W, S, e, C, h => by
    unfold chkF at h
    cases h
  | .rev _, X, W, S, e, C, h => by
    unfold chkF at h
    cases h
  | .dnew, X, W, S, e, C, h => by
    unfold chkF at h
    cases h
  | .trg _, X, W, S, e, C, h => by
    unfold chkF at h
    cases h
  | .anil, X, W, S, e, C, h => by
    unfold chkF at h
    cases h
  | .acons _ _, X, W, S, e, C, h => by
    unfold chkF at h
    cases h
  | .astar _ _, X, W, S, e, C, h => by
    unfold chkF at h
    cases h
  | .over _, X, W, S, e, C, h => by
    unfold chkF at h
    cases h
  | .range _, X, W, S, e, C, h => by
    unfold chkF at h
    cases h
  | .enum _, X, W, S, e, C, h => by
    unfold chkF at h
    cases h
  | .zip _ _, X, W, S, e, C, h => by
    unfold chkF at h
    cases h
  | .noe, X, W, S, e, C, h => by
    unfold chkF at h
    cases h
  | .sm _, X, W, S, e, C, h => by
    unfold chkF at h
    cases h
theorem sndW (V : Lv Γ G D cf k) : ∀ (x : Ex) {X : Cx} {W : WX} {S : Sc} {t e : Expr}, Cs X Γ W k S → chkW D S x t e = true → PI X t e (tW Γ W (evW G cf x))
  | .over a, X, W, S, t, e, C, h => by
    unfold chkW at h
    exact w_over C.c (sndE V a C h).1
  | .range as, X, W, S, t, e, C, h => by
    have qx := fun {es} => sndX V as (X := X) (W := W) (S := S) (es := es) C
    unfold chkW at h
    split at h
    · rename_i x p es pos
      simp only [Bool.and_eq_true] at h
      obtain ⟨⟨⟨⟨⟨h1, h2⟩, h3⟩, h4⟩, h5⟩, h6⟩ := h
      cases of_decide_eq_true h1
      obtain ⟨evs, e1, e2⟩ := qx h3 h4
      have hn : Γ.mg (Str.ofString "range") = none := V.nb _ (by decide)
      have z : evW G cf (.range as) = fun env h => bnd (evA G cf as env h) r1R := rfl
      rw [z, e2]
      have l5 := of_decide_eq_true h5
      have l6 := of_decide_eq_true h6
      match es, evs, e1, h3, l5, l6 with
      | [a], [ea], e1, h3, _, _ => exact w_range1 C.c (gl_of C h2) hn e1.1 h3
      | [a, b], [ea, eb], e1, h3, _, _ => exact w_range2 C.c (gl_of C h2) hn e1.1 e1.2.1 h3
      | [a, b, c], [ea, eb, ec], e1, h3, _, _ => exact w_range3 C.c (gl_of C h2) hn e1.1 e1.2.1 e1.2.2.1 h3
      | [], _, _, _, l5, _ => exact absurd l5 (by decide)
      | _ :: _ :: _ :: _ :: _, _, _, _, _, l6 => exact absurd l6 (by simp)
      | [_], [], e1, _, _, _ => exact e1.elim
      | [_], _ :: _ :: _, e1, _, _, _ => exact e1.2.elim
      | [_, _], [], e1, _, _, _ => exact e1.elim
      | [_, _], [_], e1, _, _, _ => exact e1.2.elim
      | [_, _], _ :: _ :: _ :: _, e1, _, _, _ => exact e1.2.2.elim
      | [_, _, _], [], e1, _, _, _ => exact e1.elim
      | [_, _, _], [_], e1, _, _, _ => exact e1.2.elim
      | [_, _, _], [_, _], e1, _, _, _ => exact e1.2.2.elim
      | [_, _, _], _ :: _ :: _ :: _ :: _, e1, _, _, _ => exact e1.2.2.2.elim
    · cases h
  | .enum a, X, W, S, t, e, C, h => by
    have qa := fun {e} => sndE V a (X := X) (W := W) (S := S) (e := e) C
    unfold chkW at h
    split at h
    · simp only [Bool.and_eq_true, Bool.not_eq_true'] at h
      obtain ⟨⟨⟨h1, h2⟩, h3⟩, h4⟩ := h
      cases of_decide_eq_true h1
      exact w_enumL C.c (gl_of C h2) (V.nb _ (by decide)) (qa h4).1 (by unfold noStars; rw [h3]; rfl)
    · cases h
  | .zip a b, X, W, S, t, e, C, h => by
    have qa := fun {e} => sndE V a (X := X) (W := W) (S := S) (e := e) C
    have qb := fun {e} => sndE V b (X := X) (W := W) (S := S) (e := e) C
    unfold chkW at h
    split at h
    · simp only [Bool.and_eq_true] at h
      obtain ⟨⟨⟨⟨h1, h2⟩, h3⟩, h4⟩, h5⟩ := h
      cases of_decide_eq_true h1
      exact w_zip C.c (gl_of C h2) (V.nb _ (by decide)) (qa h4).1 (qb h5).1 h3
    · cases h
  | .var _, X, W, S, t, e, C, h => by
    unfold chkW at h
    cases h
  | .int _, X, W, S, t, e, C, h => by
    unfold chkW at h
    cases h
  | .bl _, X, W, S, t, e, C, h => by
    unfold chkW at h
    cases h
  | .non, X, W, S, t, e, C, h => by
    unfold chkW at h
    cases h
  | .str _, X, W, S, t, e, C, h => by
    unfold chkW at h
    cases h
  | .gl _, X, W, S, t, e, C, h => by
    unfold chkW at h
    cases h
  | .bin _ _ _, X, W, S, t, e, C, h => by
    unfold chkW at h
    cases h
  | .neg _, X, W, S, t, e, C, h => by
    unfold chkW at h
    cases h
  | .cmp _ _ _, X, W, S, t, e, C, h => by
    unfold chkW at h
    cases h
  | .chain _ _ _ _ _, X, W, S, t, e, C, h => by
    unfold chkW at h
    cases h
  | .and _ _, X, W, S, t, e, C, h => by
    unfold chkW at h
    cases h
  | .or _ _, X, W, S, t, e, C, h => by
    unfold chkW at h
    cases h
  | .not _, X, W, S, t, e, C, h => by
    unfold chkW at h
    cases h
  | .ite _ _ _, X, W, S, t, e, C, h => by
    unfold chkW at h
    cases h
  | .tup _, X, W, S, t, e, C, h => by
    unfold chkW at h
    cases h
  | .fz _, X, W, S, t, e, C, h => by
    unfold chkW at h
    cases h
  | .th _, X, W, S, t, e, C, h => by
    unfold chkW at h
    cases h
  | .sub _ _, X, W, S, t, e, C, h => by
    unfold chkW at h
    cases h
  | .slc _ _ _, X, W, S, t, e, C, h => by
    unfold chkW at h
    cases h
  | .call _ _, X, W, S, t, e, C, h => by
    unfold chkW at h
    cases h
  | .callv _ _, X, W, S, t, e, C, h => by
    unfold chkW at h
    cases h
  | .mk _ _, X, W, S, t, e, C, h => by
    unfold chkW at h
    cases h
  | .bif _ _, X, W, S, t, e, C, h => by
    unfold chkW at h
    cases h
  | .mth _ _ _, X, W, S, t, e, C, h => by
    unfold chkW at h
    cases h
  | .ocmp _ _ _, X, W, S, t, e, C, h => by
    unfold chkW at h
    cases h
  | .isown _ _, X, W, S, t, e, C, h => by
    unfold chkW at h
    cases h
  | .attr _ _, X, W, S, t, e, C, h => by
    unfold chkW at h
    cases h
  | .rev _, X, W, S, t, e, C, h => by
    unfold chkW at h
    cases h
  | .dnew, X, W, S, t, e, C, h => by
    unfold chkW at h
    cases h
  | .trg _, X, W, S, t, e, C, h => by
    unfold chkW at h
    cases h
  | .lrg _, X, W, S, t, e, C, h => by
    unfold chkW at h
    cases h
  | .anil, X, W, S, t, e, C, h => by
    unfold chkW at h
    cases h
  | .acons _ _, X, W, S, t, e, C, h => by
    unfold chkW at h
    cases h
  | .astar _ _, X, W, S, t, e, C, h => by
    unfold chkW at h
    cases h
  | .disp _, X, W, S, t, e, C, h => by
    unfold chkW at h
    cases h
  | .comp _ _ _ _ _, X, W, S, t, e, C, h => by
    unfold chkW at h
    cases h
  | .listof _, X, W, S, t, e, C, h => by
    unfold chkW at h
    cases h
  | .srt _ _, X, W, S, t, e, C, h => by
    unfold chkW at h
    cases h
  | .cat _ _, X, W, S, t, e, C, h => by
    unfold chkW at h
    cases h
  | .rep _ _, X, W, S, t, e, C, h => by
    unfold chkW at h
    cases h
  | .slf _ _ _, X, W, S, t, e, C, h => by
    unfold chkW at h
    cases h
  | .noe, X, W, S, t, e, C, h => by
    unfold chkW at h
    cases h
  | .sm _, X, W, S, t, e, C, h => by
    unfold chkW at h
    cases h
theorem sndO (V : Lv Γ G D cf k) : ∀ (x : Ex) {X : Cx} {W : WX} {S : Sc} {o : Option Expr}, Cs X Γ W k S → chkO D S x o = true → PO X o (tO' Γ W (evO G cf x))
  | .noe, X, W, S, o, C, h => by
    unfold chkO at h
    split at h
    · exact o_none
    · cases h
  | .sm a, X, W, S, o, C, h => by
    unfold chkO at h
    split at h
    · exact o_some (sndE V a C h).1
    · cases h
  | .var _, X, W, S, o, C, h => by
    unfold chkO at h
    cases h
  | .int _, X, W, S, o, C, h => by
    unfold chkO at h
    cases h
  | .bl _, X, W, S, o, C, h => by
    unfold chkO at h
    cases h
  | .non, X, W, S, o, C, h => by
    unfold chkO at h
    cases h
  | .str _, X, W, S, o, C, h => by
    unfold chkO at h
    cases h
  | .gl _, X, W, S, o, C, h => by
    unfold chkO at h
    cases h
  | .bin _ _ _, X, W, S, o, C, h => by
    unfold chkO at h
    cases h
  | .neg _, X, W, S, o, C, h => by
    unfold chkO at h
    cases h
  | .cmp _ _ _, X, W, S, o, C, h => by
    unfold chkO at h
    cases h
  | .chain _ _ _ _ _, X, W, S, o, C, h => by
    unfold chkO at h
    cases h
  | .and _ _, X, W, S, o, C, h => by
    unfold chkO at h
    cases h
  | .or _ _, X, W, S, o, C, h => by
    unfold chkO at h
    cases h
  | .not _, X, W, S, o, C, h => by
    unfold chkO at h
    cases h
  | .ite _ _ _, X, W, S, o, C, h => by
    unfold chkO at h
    cases h
  | .tup _, X, W, S, o, C, h => by
    unfold chkO at h
    cases h
  | .fz _, X, W, S, o, C, h => by
    unfold chkO at h
    cases h
  | .th _, X, W, S, o, C, h => by
    unfold chkO at h
    cases h
  | .sub _ _, X, W, S, o, C, h => by
    unfold chkO at h
    cases h
  | .slc _ _ _, X, W, S, o, C, h => by
    unfold chkO at h
    cases h
  | .call _ _, X, W, S, o, C, h => by
    unfold chkO at h
    cases h
  | .callv _ _, X, W, S, o, C, h => by
    unfold chkO at h
    cases h
  | .mk _ _, X, W, S, o, C, h => by
    unfold chkO at h
    cases h
  | .bif _ _, X, W, S, o, C, h => by
    unfold chkO at h
    cases h
  | .mth _ _ _, X, W, S, o, C, h => by
    unfold chkO at h
    cases h
  | .ocmp _ _ _, X, W, S, o, C, h => by
    unfold chkO at h
    cases h
  | .isown _ _, X, W, S, o, C, h => by
    unfold chkO at h
    cases h
  | .attr _ _, X, W, S, o, C, h => by
    unfold chkO at h
    cases h
  | .rev _, X, W, S, o, C, h => by
    unfold chkO at h
    cases h
  | .dnew, X, W, S, o, C, h => by
    unfold chkO at h
    cases h
  | .trg _, X, W, S, o, C, h => by
    unfold chkO at h
    cases h
  | .lrg _, X, W, S, o, C, h => by
    unfold chkO at h
    cases h
  | .anil, X, W, S, o, C, h => by
    unfold chkO at h
    cases h
  | .acons _ _, X, W, S, o, C, h => by
    unfold chkO at h
    cases h
  | .astar _ _, X, W, S, o, C, h => by
    unfold chkO at h
    cases h
  | .disp _, X, W, S, o, C, h => by
    unfold chkO at h
    cases h
  | .comp _ _ _ _ _, X, W, S, o, C, h => by
    unfold chkO at h
    cases h
  | .listof _, X, W, S, o, C, h => by
    unfold chkO at h
    cases h
  | .srt _ _, X, W, S, o, C, h => by
    unfold chkO at h
    cases h
  | .cat _ _, X, W, S, o, C, h => by
    unfold chkO at h
    cases h
  | .rep _ _, X, W, S, o, C, h => by
    unfold chkO at h
    cases h
  | .slf _ _ _, X, W, S, o, C, h => by
    unfold chkO at h
    cases h
  | .over _, X, W, S, o, C, h => by
    unfold chkO at h
    cases h
  | .range _, X, W, S, o, C, h => by
    unfold chkO at h
    cases h
  | .enum _, X, W, S, o, C, h => by
    unfold chkO at h
    cases h
  | .zip _ _, X, W, S, o, C, h => by
    unfold chkO at h
    cases h
theorem sndC (V : Lv Γ G D cf k) : ∀ (x : Ex) {X : Cx} {W : WX} {S : Sc} {es : List Expr}, Cs X Γ W k S → chkC D S x es = true → PTs X es (tB' Γ W (evC G cf x))
  | .noe, X, W, S, o, C, h => by
    unfold chkC at h
    split at h
    · exact ts_nil
    · cases h
  | .sm a, X, W, S, o, C, h => by
    unfold chkC at h
    split at h
    · exact pts_one (sndE V a C h).2
    · cases h
  | .var _, X, W, S, o, C, h => by
    unfold chkC at h
    cases h
  | .int _, X, W, S, o, C, h => by
    unfold chkC at h
    cases h
  | .bl _, X, W, S, o, C, h => by
    unfold chkC at h
    cases h
  | .non, X, W, S, o, C, h => by
    unfold chkC at h
    cases h
  | .str _, X, W, S, o, C, h => by
    unfold chkC at h
    cases h
  | .gl _, X, W, S, o, C, h => by
    unfold chkC at h
    cases h
  | .bin _ _ _, X, W, S, o, C, h => by
    unfold chkC at h
    cases h
  | .neg _, X, W, S, o, C, h => by
    unfold chkC at h
    cases h
  | .cmp _ _ _, X, W, S, o, C, h => by
    unfold chkC at h
    cases h
  | .chain _ _ _ _ _, X, W, S, o, C, h => by
    unfold chkC at h
    cases h
  | .and _ _, X, W, S, o, C, h => by
    unfold chkC at h
    cases h
  | .or _ _, X, W, S, o, C, h => by
    unfold chkC at h
    cases h
  | .not _, X, W, S, o, C, h => by
    unfold chkC at h
    cases h
  | .ite _ _ _, X, W, S, o, C, h => by
    unfold chkC at h
    cases h
  | .tup _, X, W, S, o, C, h => by
    unfold chkC at h
    cases h
  | .fz _, X, W, S, o, C, h => by
    unfold chkC at h
    cases h
  | .th _, X, W, S, o, C, h => by
    unfold chkC at h
    cases h
  | .sub _ _, X, W, S, o, C, h => by
    unfold chkC at h
    cases h
  | .slc _ _ _, X, W, S, o, C, h => by
    unfold chkC at h
    cases h
  | .call _ _, X, W, S, o, C, h => by
    unfold chkC at h
    cases h
  | .callv _ _, X, W, S, o, C, h => by
    unfold chkC at h
    cases h
  | .mk _ _, X, W, S, o, C, h => by
    unfold chkC at h
    cases h
  | .bif _ _, X, W, S, o, C, h => by
    unfold chkC at h
    cases h
  | .mth _ _ _, X, W, S, o, C, h => by
    unfold chkC at h
    cases h
  | .ocmp _ _ _, X, W, S, o, C, h => by
    unfold chkC at h
    cases h
  | .isown _ _, X, W, S, o, C, h => by
    unfold chkC at h
    cases h
  | .attr _ _, X, W, S, o, C, h => by
    unfold chkC at h
    cases h
  | .rev _, X, W, S, o, C, h => by
    unfold chkC at h
    cases h
  | .dnew, X, W, S, o, C, h => by
    unfold chkC at h
    cases h
  | .trg _, X, W, S, o, C, h => by
    unfold chkC at h
    cases h
  | .lrg _, X, W, S, o, C, h => by
    unfold chkC at h
    cases h
  | .anil, X, W, S, o, C, h => by
    unfold chkC at h
    cases h
  | .acons _ _, X, W, S, o, C, h => by
    unfold chkC at h
    cases h
  | .astar _ _, X, W, S, o, C, h => by
    unfold chkC at h
    cases h
  | .disp _, X, W, S, o, C, h => by
    unfold chkC at h
    cases h
  | .comp _ _ _ _ _, X, W, S, o, C, h => by
    unfold chkC at h
    cases h
  | .listof _, X, W, S, o, C, h => by
    unfold chkC at h
    cases h
  | .srt _ _, X, W, S, o, C, h => by
    unfold chkC at h
    cases h
  | .cat _ _, X, W, S, o, C, h => by
    unfold chkC at h
    cases h
  | .rep _ _, X, W, S, o, C, h => by
    unfold chkC at h
    cases h
  | .slf _ _ _, X, W, S, o, C, h => by
    unfold chkC at h
    cases h
  | .over _, X, W, S, o, C, h => by
    unfold chkC at h
    cases h
  | .range _, X, W, S, o, C, h => by
    unfold chkC at h
    cases h
  | .enum _, X, W, S, o, C, h => by
    unfold chkC at h
    cases h
  | .zip _ _, X, W, S, o, C, h => by
    unfold chkC at h
    cases h
end
end
end Mi
set_option Elab.async false
set_option linter.all false
set_option maxRecDepth 100000
set_option maxHeartbeats 4000000
namespace Mi
open PySem PySem.Spec PyProof.Rows L2
def swB (S : Sc) (x : Str) (p : Pos) (e : Expr) : Bool := match e with
  | .ListComp _ _ scope lp => plB S x && p.line == lp.line && !(scope.names.any fun (n, k) => n == x && (k == .local || k == .cell))
  | _ => false
theorem swaps_lc {elt : Expr} {gens : List Comprehension} {scope : Scope} {lp p : Pos} {x : Str} {l : Nat} {env : PySem.Env} (hk : env.scope.kind = .function) :
    swapsWith (.ListComp elt gens scope lp) (some (.Name x p)) l env = pure (env.kindOf x == some .local && p.line == lp.line && !(scope.names.any fun (n, k) => n == x && (k == .local || k == .cell))) := by
  have hb : env.blockKind = .function := by
    unfold Env.blockKind
    rw [hk]
    rfl
  unfold swapsWith
  dsimp only
  rw [hb]
  rfl
theorem execs_one {st : Stmt} {env : PySem.Env} : execs [st] env = exec st env := by
  have e : execs [st] env = (exec st env >>= fun f => pure f) := by
    rw [execs_cons]
    congr 1
    funext f
    cases f <;> rfl
  rw [e]
  exact bind_pure _
theorem ps_of {X : Cx} {st : Stmt} {t : TS} (h : PSs X [st] t) : PS X st t := ⟨fun pins s σ H D I q => by
  have z := h.run pins s σ H D I q
  rw [execs_one] at z
  exact z⟩
theorem plB_eq {S : Sc} {x : Str} {env : PySem.Env} (h : env.scope = S.sc) : (env.kindOf x == some .local) = plB S x := by
  unfold plB Env.kindOf
  rw [h]
  cases S.sc.names.lookup x with
  | none => rfl
  | some k => cases k <;> rfl
theorem swaps_swB {S : Sc} {elt : Expr} {gens : List Comprehension} {scope : Scope} {lp p : Pos} {x : Str} {l : Nat} {env : PySem.Env} (hk : env.scope.kind = .function) (e : env.scope = S.sc) :
    swapsWith (.ListComp elt gens scope lp) (some (.Name x p)) l env = pure (swB S x p (.ListComp elt gens scope lp)) := by
  rw [swaps_lc hk, plB_eq e]
  rfl
def isNames2 (S : Sc) (is : List Nat) (ts : List Expr) (n : Nat) : Bool := match is, ts with
  | [i, j], [.Name x _, .Name y _] => n == 2 && decide (i ≠ j) && plB S x && plB S y && slB S i x && slB S j y && decide (swNames S.sc (lineOf ts) ts = [x, y])
  | [i, j, l], [.Name x _, .Name y _, .Name z _] => n == 3 && decide (i ≠ j) && decide (i ≠ l) && decide (j ≠ l) && plB S x && plB S y && plB S z && slB S i x && slB S j y && slB S l z && decide (swNames S.sc (lineOf ts) ts = [x, y, z])
  | _, _ => false
def chkAts (D : Nm) (S : Sc) (o : Nat) : List Nat → List Expr → Bool
  | [], [] => true
  | f :: fs, .Attribute o' x _ :: ts => decide (D.ats.lookup x = some f) && chkE D S (.var o) o' && chkAts D S o fs ts
  | _, _ => false
def isFn (k : ScopeKind) : Bool := match k with
  | .function => true
  | _ => false
def chkS (D : Nm) (S : Sc) : St → List Stmt → Bool
  | .skip => fun l => match l with
    | [] => true
    | [.Pass _] => true
    | [.Expr (.Constant (.str _) _ _) _] => true
    | _ => false
  | .never => fun l => match l with
    | [_] => true
    | _ => false
  | .seq a b => fun l => match l with
    | s :: t :: r => chkS D S a [s] && chkS D S b (t :: r)
    | _ => false
  | .ex e => fun l => match l with
    | [.Expr e' _] => chkE D S e e' && !isLC e'
    | _ => false
  | .set i e => fun l => match l with
    | [.Assign [.Name x p] e' _] => slB S i x && locB S x && chkE D S e e' && (!isLC e' || (match e' with
      | .ListComp _ _ _ _ => (!swB S x p e') || (match e with
        | .fz f => chkF D S f e' && (match f with | .comp _ _ _ _ _ => true | _ => false)
        | .th f => chkF D S f e' && (match f with | .comp _ _ _ _ _ => true | _ => false)
        | _ => false)
      | _ => false))
    | _ => false
  | .par is as => fun l => match l with
    | [.Assign [.Tuple ts _ _] (.Tuple vs _ _) _] => chkTs S is ts && chkA D S as vs && decide (is.length ≤ 1000) && (decide (swK S.sc ts vs = 0) || (decide (swK S.sc ts vs = 1) && isNames2 S is ts vs.length))
    | _ => false
  | .unp is e => fun l => match l with
    | [.Assign [.Tuple ts _ _] e' _] => chkTs S is ts && chkE D S e e' && (!isTup e' || (match e' with
      | .Tuple vs _ _ => decide (swK S.sc ts vs = 0)
      | _ => false))
    | _ => false
  | .aug i o e => fun l => match l with
    | [.AugAssign (.Name x _) p e' _] => slB S i x && locB S x && opB o p && chkE D S e e'
    | _ => false
  | .sets o i e => fun l => match l with
    | [.Assign [.Subscript o' i' _] e' _] => chkE D S e e' && chkE D S o o' && chkE D S i i' && !isLC e' && !isTup e' && !isSlice i'
    | _ => false
  | .augs o i b e => fun l => match l with
    | [.AugAssign (.Subscript o' i' _) p e' _] => opB b p && chkE D S e e' && chkE D S o o' && chkE D S i i' && !isSlice i'
    | _ => false
  | .setf o f e => fun l => match l with
    | [.Assign [.Attribute o' x _] e' _] => decide (D.ats.lookup x = some f) && chkE D S e e' && chkE D S o o' && !isLC e' && !isTup e'
    | _ => false
  | .parf o fs as => fun l => match l with
    | [.Assign [.Tuple ts _ _] (.Tuple vs _ _) _] => chkAts D S o fs ts && chkA D S as vs && decide (fs.length ≤ 1000) && decide (swK S.sc ts vs = 0)
    | _ => false
  | .ifs c a b => fun l => match l with
    | [.If c' as bs _] => chkE D S c c' && chkS D S a as && chkS D S b bs
    | _ => false
  | .fors tg it b => fun l => match l with
    | [.For t it' body [] _] => chkT S tg t && chkW D S it t it' && chkS D S b body && noSet it'
    | _ => false
  | .whiles c b => fun l => match l with
    | [.While c' body [] _] => chkE D S c c' && chkS D S b body
    | _ => false
  | .ret e => fun l => match l with
    | [.Return (some e') _] => chkE D S e e'
    | [.Return none _] => match e with
      | .non => true
      | _ => false
    | _ => false
  | .brk => fun l => match l with
    | [.Break _] => true
    | _ => false
  | .cnt => fun l => match l with
    | [.Continue _] => true
    | _ => false
  | .raise _ _ => fun _ => false
section
variable {Γ : Gm} {G : GT} {D : Nm} {cf : CF} {k : Nat}
theorem set_comp (V : Lv Γ G D cf k) {X : Cx} {W : WX} {S : Sc} (C : Cs X Γ W k S) (w : Bool) {i : Nat} {x : Str} {py spos : Pos} {own : List Nat} {tg : Tg} {it c el : Ex} {e : Expr} (hk : X.env.scope.kind = .function) (hi : slB S i x = true) (hsw : swB S x py e = true) (h : chkF D S (.comp own tg it c el) e = true) :
    PS X (.Assign [.Name x py] e spos) (tS Γ W fun env h => bnd (bnd (evF G cf (.comp own tg it c el) env h) (keepR w)) (asgR (.n i) env)) := by
  unfold chkF at h
  split at h
  · rename_i elt target iter ifs scope lp
    have hl : plB S x = true := by
      unfold swB at hsw
      simp only [Bool.and_eq_true] at hsw
      exact hsw.1.1
    simp only [Bool.and_eq_true] at h
    obtain ⟨⟨⟨⟨⟨⟨⟨h1, h2⟩, h3⟩, h4⟩, h5⟩, h6⟩, h7⟩, h8⟩ := h
    have h1 := of_decide_eq_true h1
    obtain ⟨g, hg⟩ := tg_of (Γ := Γ) (k := k) h5
    have z := s_setLc (w := w) (own := ownP S own) (pos := lp) (py := py) (spos := spos) C.c (sl_of C hi) (pl_of C hl) (by rw [swaps_swB hk C.sc, hsw]) (sndW V it C h6) (by rw [C.N, C.sc]; exact blkOk_by h2) (fun s H A cl fp => hg _ _ (C.blk _ s H A cl fp)) (fun s H A cl fp => sndC V c (C.blk _ s H A cl fp) h7) (fun s H A cl fp => (sndE V el (C.blk _ s H A cl fp) h8).1) (by rw [h1]; exact tgIn_of h3) (noSet_fold h4)
    rw [h1] at z
    exact z
  · cases h
theorem ats_many (V : Lv Γ G D cf k) {o : Nat} : ∀ {fs : List Nat} {ts : List Expr} {S : Sc}, chkAts D S o fs ts = true → ∃ xs, Paired (fun x f => D.ats.lookup x = some f) xs fs ∧ ts.length = fs.length ∧ noStars ts = true ∧
    ∀ (X : Cx) (W : WX), Cs X Γ W k S → PGs X ts (gAtts X.K (tE Γ W fun env h => match env[o]? with
      | some (some v) => .ok v h
      | _ => .bad) xs)
  | [], [], S, _ => ⟨[], .nil, rfl, rfl, fun X W C => pgs_nil⟩
  | [], _ :: _, S, h => by
    unfold chkAts at h
    cases h
  | _ :: _, [], S, h => by
    unfold chkAts at h
    cases h
  | f :: fs, t :: ts, S, h => by
    unfold chkAts at h
    split at h
    · rename_i h0 _
      cases h0
    · rename_i f' fs' o' x ap ts' e1 e2
      cases e1
      cases e2
      simp only [Bool.and_eq_true] at h
      obtain ⟨⟨h1, h2⟩, h3⟩ := h
      obtain ⟨xs, a1, a2, a3, a4⟩ := ats_many V h3
      refine ⟨x :: xs, .cons (of_decide_eq_true h1) a1, congrArg (· + 1) a2, ?_, fun X W C => pgs_cons (pg_att (sndE V (.var o) C h2).1) (a4 X W C) rfl⟩
      unfold noStars
      exact a3
    · cases h
theorem sndS (V : Lv Γ G D cf k) {X : Cx} {W : WX} {S : Sc} (C : Cs X Γ W k S) (hk : X.env.scope.kind = .function) (hp : PassesOwn (model X.prog X.w) X.A X.env X.xe) : ∀ (x : St) {l : List Stmt}, chkS D S x l = true → PSs X l (tS Γ W (evS G cf x))
  | .skip, l, h => by
    unfold chkS at h
    split at h
    · exact ss_nil
    · exact ss_one (s_skip ps_pass)
    · exact ss_one (s_skip ps_doc)
    · cases h
  | .never, l, h => by
    unfold chkS at h
    split at h
    · exact ss_one ⟨fun pins s σ H D I ⟨_, _, _, _, _, _, k⟩ => k.elim⟩
    · cases h
  | .seq a b, l, h => by
    have qa := fun {l} => sndS V C hk hp a (l := l)
    have qb := fun {l} => sndS V C hk hp b (l := l)
    unfold chkS at h
    split at h
    · rw [Bool.and_eq_true] at h
      exact ss_cons (ps_of (qa h.1)) (qb h.2)
    · cases h
  | .ex e, l, h => by
    unfold chkS at h
    split at h
    · simp only [Bool.and_eq_true, Bool.not_eq_true'] at h
      exact ss_one (s_expr (sndE V e C h.1).1 h.2)
    · cases h
  | .set i e, l, h => by
    unfold chkS at h
    split at h
    · rename_i x p e' pos
      simp only [Bool.and_eq_true] at h
      obtain ⟨⟨⟨h1, h2⟩, h3⟩, h4⟩ := h
      obtain ⟨a, b⟩ := loc_of C h2
      rw [Bool.or_eq_true] at h4
      rcases h4 with h4 | h4
      · exact ss_one (s_set C.c (sl_of C h1) a b (sndE V e C h3).1 (swaps_no (by simpa using h4)))
      · split at h4
        · rename_i elt gens scope lp
          rw [Bool.or_eq_true] at h4
          by_cases hs : swB S x p (.ListComp elt gens scope lp) = true
          · rcases h4 with h4 | h4
            · rw [hs] at h4
              cases h4
            · split at h4
              · rename_i f
                rw [Bool.and_eq_true] at h4
                obtain ⟨h5, h6⟩ := h4
                split at h6
                · exact ss_one (set_comp V C false hk h1 hs h5)
                · cases h6
              · rename_i f
                rw [Bool.and_eq_true] at h4
                obtain ⟨h5, h6⟩ := h4
                split at h6
                · exact ss_one (set_comp V C true hk h1 hs h5)
                · cases h6
              · cases h4
          · refine ss_one (s_set C.c (sl_of C h1) a b (sndE V e C h3).1 ?_)
            rw [swaps_swB hk C.sc]
            have hs : swB S x p (.ListComp elt gens scope lp) = false := by simpa using hs
            rw [hs]
        · cases h4
    · cases h
  | .par is as, l, h => by
    unfold chkS at h
    split at h
    · rename_i ts k1 p1 vs k2 p2 pos
      simp only [Bool.and_eq_true] at h
      obtain ⟨⟨⟨h1, h2⟩, h3⟩, h4⟩ := h
      have qa := sndA V as C h2
      obtain ⟨sw0, sw1⟩ := sw_eq (ts := ts) (vs := vs) (k := k1) (k2 := k2) (p := p1) (p2 := p2) hk
      rw [C.sc] at sw0 sw1
      rw [Bool.or_eq_true] at h4
      rcases h4 with h4 | h4
      · obtain ⟨g, g1, g2, g3⟩ := tg_many (Γ := Γ) (k := k) h1
        exact ss_one (s_parA C.c (g1 X W C) g2 g3 (of_decide_eq_true h3) qa (sw0 (of_decide_eq_true h4)))
      · rw [Bool.and_eq_true] at h4
        have sw := sw1 (of_decide_eq_true h4.1)
        have h5 := h4.2
        unfold isNames2 at h5
        split at h5
        · simp only [Bool.and_eq_true] at h5
          obtain ⟨⟨⟨⟨⟨⟨a1, a2⟩, a3⟩, a4⟩, a5⟩, a6⟩, a7⟩ := h5
          rw [of_decide_eq_true a7] at sw
          match vs, qa, a1, sw with
          | [v1, v2], qa, _, sw => exact ss_one (s_par2 C.c (sl_of C a5) (sl_of C a6) (of_decide_eq_true a2) (pl_of C a3) (pl_of C a4) qa sw)
          | [], _, a1, _ => simp at a1
          | [_], _, a1, _ => simp at a1
          | _ :: _ :: _ :: _, _, a1, _ => simp at a1
        · simp only [Bool.and_eq_true] at h5
          obtain ⟨⟨⟨⟨⟨⟨⟨⟨⟨⟨a1, a2⟩, a3⟩, a4⟩, a5⟩, a6⟩, a7⟩, a8⟩, a9⟩, b1⟩, b2⟩ := h5
          rw [of_decide_eq_true b2] at sw
          match vs, qa, a1, sw with
          | [v1, v2, v3], qa, _, sw => exact ss_one (s_par3 C.c (sl_of C a8) (sl_of C a9) (sl_of C b1) (of_decide_eq_true a2) (of_decide_eq_true a3) (of_decide_eq_true a4) (pl_of C a5) (pl_of C a6) (pl_of C a7) qa sw)
          | [], _, a1, _ => simp at a1
          | [_], _, a1, _ => simp at a1
          | [_, _], _, a1, _ => simp at a1
          | _ :: _ :: _ :: _ :: _, _, a1, _ => simp at a1
        · cases h5
    · cases h
  | .unp is e, l, h => by
    unfold chkS at h
    split at h
    · rename_i ts k1 p1 e' pos
      simp only [Bool.and_eq_true] at h
      obtain ⟨⟨h1, h2⟩, h3⟩ := h
      obtain ⟨g, g1, g2, g3⟩ := tg_many (Γ := Γ) (k := k) h1
      have qe := (sndE V e C h2).1
      have hg := tg_tup C.c (g1 X W C) g2 g3 (k := k1) (pos := p1)
      rw [Bool.or_eq_true] at h3
      rcases h3 with h3 | h3
      · exact ss_one (s_asg qe hg swaps_tup (swapped_no (by simpa using h3)) rfl)
      · split at h3
        · rename_i vs k2 p2
          obtain ⟨sw0, sw1⟩ := sw_eq (ts := ts) (vs := vs) (k := k1) (k2 := k2) (p := p1) (p2 := p2) hk
          rw [C.sc] at sw0 sw1
          exact ss_one (s_asg qe hg swaps_tup (sw0 (of_decide_eq_true h3)) rfl)
        · cases h3
    · cases h
  | .aug i o e, l, h => by
    unfold chkS at h
    split at h
    · simp only [Bool.and_eq_true] at h
      obtain ⟨⟨⟨h1, h2⟩, h3⟩, h4⟩ := h
      obtain ⟨a, b⟩ := loc_of C h2
      cases opB_eq h3
      exact ss_one (s_aug C.c (sl_of C h1) a b (sndE V e C h4).1)
    · cases h
  | .sets o i e, l, h => by
    unfold chkS at h
    split at h
    · simp only [Bool.and_eq_true, Bool.not_eq_true'] at h
      obtain ⟨⟨⟨⟨⟨h1, h2⟩, h3⟩, h4⟩, h5⟩, h6⟩ := h
      exact ss_one (s_sets C.c (sndE V e C h1).1 (sndE V o C h2).1 (sndE V i C h3).1 h4 h5 h6)
    · cases h
  | .augs o i b e, l, h => by
    unfold chkS at h
    split at h
    · simp only [Bool.and_eq_true, Bool.not_eq_true'] at h
      obtain ⟨⟨⟨⟨h1, h2⟩, h3⟩, h4⟩, h5⟩ := h
      cases opB_eq h1
      exact ss_one (s_augs C.c (sndE V e C h2).1 (sndE V o C h3).1 (sndE V i C h4).1 h5)
    · cases h
  | .setf o f e, l, h => by
    unfold chkS at h
    split at h
    · simp only [Bool.and_eq_true, Bool.not_eq_true'] at h
      obtain ⟨⟨⟨⟨h1, h2⟩, h3⟩, h4⟩, h5⟩ := h
      exact ss_one (s_setf C.c V.kl (of_decide_eq_true h1) (sndE V e C h2).1 (sndE V o C h3).1 h4 h5)
    · cases h
  | .parf o fs as, l, h => by
    unfold chkS at h
    split at h
    · rename_i ts k1 p1 vs k2 p2 pos
      simp only [Bool.and_eq_true] at h
      obtain ⟨⟨⟨h1, h2⟩, h3⟩, h4⟩ := h
      obtain ⟨xs, a1, a2, a3, a4⟩ := ats_many V h1
      obtain ⟨sw0, _⟩ := sw_eq (ts := ts) (vs := vs) (k := k1) (k2 := k2) (p := p1) (p2 := p2) hk
      rw [C.sc] at sw0
      exact ss_one (s_parf C.c V.kl a1 (a4 X W C) a2 a3 (of_decide_eq_true h3) (sndA V as C h2) (sw0 (of_decide_eq_true h4)))
    · cases h
  | .ifs c a b, l, h => by
    have qa := fun {l} => sndS V C hk hp a (l := l)
    have qb := fun {l} => sndS V C hk hp b (l := l)
    unfold chkS at h
    split at h
    · simp only [Bool.and_eq_true] at h
      obtain ⟨⟨h1, h2⟩, h3⟩ := h
      exact ss_one (s_if (sndE V c C h1).2 (qa h2) (qb h3))
    · cases h
  | .fors tg it b, l, h => by
    have qb := fun {l} => sndS V C hk hp b (l := l)
    unfold chkS at h
    split at h
    · simp only [Bool.and_eq_true] at h
      obtain ⟨⟨⟨h1, h2⟩, h3⟩, h4⟩ := h
      obtain ⟨g, hg⟩ := tg_of (Γ := Γ) (k := k) h1
      exact ss_one (s_for C.c hp (sndW V it C h2) (hg X W C) (qb h3) (noSet_fold h4))
    · cases h
  | .whiles c b, l, h => by
    have qb := fun {l} => sndS V C hk hp b (l := l)
    unfold chkS at h
    split at h
    · simp only [Bool.and_eq_true] at h
      exact ss_one (s_while C.c hp (sndE V c C h.1).2 (qb h.2))
    · cases h
  | .ret e, l, h => by
    unfold chkS at h
    split at h
    · exact ss_one (s_ret (sndE V e C h).1)
    · split at h
      · exact ss_one s_retN
      · cases h
    · cases h
  | .brk, l, h => by
    unfold chkS at h
    split at h
    · exact ss_one s_brk
    · cases h
  | .cnt, l, h => by
    unfold chkS at h
    split at h
    · exact ss_one s_cnt
    · cases h
  | .raise _ _, l, h => by
    unfold chkS at h
    cases h
end
end Mi
set_option Elab.async false
set_option linter.all false
set_option maxRecDepth 100000
set_option maxHeartbeats 4000000
namespace Mi
open PySem PySem.Spec PyProof.Rows L2
section
variable {Γ : Gm} {L m t : List Addr} {H : Hp}
theorem mapO_rep {f : Vl → Option Vl} (hf : ∀ x y u, f x = some y → RepV Γ L (m ++ t) H x u → RepV Γ L m H y u) : ∀ {xs ys : List Vl} {us : List V}, mapO f xs = some ys → RepL Γ L (m ++ t) H xs us → RepL Γ L m H ys us
  | [], ys, [], e, _ => by cases Option.some.inj e; exact trivial
  | [], _, _ :: _, _, r => r.elim
  | _ :: _, _, [], _, r => r.elim
  | x :: xs, ys, u :: us, e, r => by
    unfold mapO at e
    split at e
    · rename_i y hy
      split at e
      · rename_i l hl
        cases Option.some.inj e
        exact ⟨hf _ _ _ hy r.1, mapO_rep hf hl r.2⟩
      · cases e
    · cases e
theorem frV_rep {h : Hh} (rh : RepH Γ L (m ++ t) h H) : ∀ (k : Nat) (v y : Vl) (u : V), frV h m.length k v = some y → RepV Γ L (m ++ t) H v u → RepV Γ L m H y u
  | 0, v, y, u, e, _ => by cases e
  | k + 1, v, y, u, e, r => by
    have ih := frV_rep rh k
    unfold frV at e
    split at e
    · split at e
      · rename_i l hl
        cases Option.some.inj e
        obtain ⟨a, us, e, q, r⟩ := r
        exact ⟨a, us, e, q, mapO_rep (fun x y u => ih x y u) hl r⟩
      · cases e
    · split at e
      · rename_i l hl
        cases Option.some.inj e
        obtain ⟨a, us, e, q, n, n2, r⟩ := r
        exact ⟨a, us, e, q, not_mem_left n, n2, mapO_rep (fun x y u => ih x y u) hl r⟩
      · cases e
    · split at e
      · rename_i l hl
        cases Option.some.inj e
        obtain ⟨a, dx, vs, us, e, q, n1, n2, n3, n4, f, r⟩ := r
        exact ⟨a, dx, vs, us, e, q, not_mem_left n1, n2, not_mem_left n3, n4, f, mapO_rep (fun x y u => ih x y u) hl r⟩
      · cases e
    · rename_i n
      obtain ⟨a, ea, q⟩ := r
      split at e
      · rename_i hn
        cases Option.some.inj e
        rw [List.getElem?_append_left hn] at q
        exact ⟨a, ea, q⟩
      · rename_i hn
        split at e
        · rename_i xs hx
          split at e
          · rename_i l hl
            cases Option.some.inj e
            obtain ⟨us, e2, rr⟩ := rh.at_ q hx
            refine ⟨a, us, ea, e2, fun z => ?_, rh.ap a (List.mem_of_getElem? q), mapO_rep (fun x y u => ih x y u) hl rr⟩
            rw [List.getElem?_append_right (by omega)] at q
            exact (List.nodup_append.mp rh.nd).2.2 a z a (List.mem_of_getElem? q) rfl
          · cases e
        · cases e
    · cases e
    · cases e
    · cases e
    · cases Option.some.inj e
      cases v with
      | non => exact r
      | bl b => exact r
      | int i => exact r
      | str s => exact r
      | fn g => exact r
      | tup xs => rename_i h1 _ _ _ _ _ _; exact absurd rfl (h1 xs)
      | lst xs => rename_i _ h1 _ _ _ _ _; exact absurd rfl (h1 xs)
      | ins c xs => rename_i _ _ h1 _ _ _ _; exact absurd rfl (h1 c xs)
      | ref n => rename_i _ _ _ h1 _ _ _; exact absurd rfl (h1 n)
      | scr xs => rename_i _ _ _ _ h1 _ _; exact absurd rfl (h1 xs)
      | dct xs => exact r.elim
      | clo k => exact r.elim
theorem fin_ok {W : WX} {σ : L2.St} {frz : Bool} {n0 : Nat} {v : Vl} {h h' : Hh} {Q : VK} (rh0 : RepH Γ L m h H) (hn : n0 = h.length) (k : okG Γ W L m H σ (fun m' H' => RepV Γ L m' H') (fin frz n0 v h') Q) :
    ∀ m' H' u, Grow m H m' H' → RepH Γ L m' h' H' → RepV Γ L m' H' v u → Q u H' := by
  intro m' H' u g rh rv
  unfold fin at k
  split at k
  · exact k m' H' u g rh rv
  · split at k
    · exact k m' H' u g rh rv
    · split at k
      · rename_i y hy
        split at k
        · split at k
          · rename_i hw
            obtain ⟨t, rfl, _⟩ := g.ext
            have e : n0 = m.length := by rw [hn, rh0.len]
            subst e
            exact k m H' u ⟨⟨[], by simp, fun _ z => nomatch z⟩, g.keep, g.tup, g.frz, g.own⟩ (rh.shrink hw) (frV_rep rh _ _ _ _ hy rv)
          · exact k.elim
        · exact k.elim
      · exact k.elim
theorem finX_ok {W : WX} {σ : L2.St} {n0 : Nat} {c : Nat} {p : Option Vl} {h h' : Hh} {Q : VK} (rh0 : RepH Γ L m h H) (hn : n0 = h.length) (k : okG Γ W L m H σ (fun m' H' => RepV Γ L m' H') (finX n0 c p h') Q) :
    ∀ m' H' d, Grow m H m' H' → RepH Γ L m' h' H' → RepX Γ L m' H' c p d → W (.ref (Γ.xa c)) d σ H' := by
  intro m' H' d g rh rx
  unfold finX at k
  split at k
  · exact k m' H' d g rh rx
  · have e : n0 = m.length := by rw [hn, rh0.len]
    subst e
    obtain ⟨t, rfl, _⟩ := g.ext
    have g' : Grow m H m H' := ⟨⟨[], by simp, fun _ z => nomatch z⟩, g.keep, g.tup, g.frz, g.own⟩
    split at k
    · split at k
      · rename_i hw
        exact k m H' d g' (rh.shrink hw) trivial
      · exact k.elim
    · split at k
      · rename_i y hy
        split at k
        · split at k
          · rename_i hw
            obtain ⟨a, u, e1, e2, e3⟩ := rx
            exact k m H' d g' (rh.shrink hw) ⟨a, u, e1, e2, frV_rep rh _ _ _ _ hy e3⟩
          · exact k.elim
        · exact k.elim
      · exact k.elim
end
structure DefOk (Γ : Gm) (D : Nm) (d : FD) (a : Addr) : Prop where
  ex : ∃ x qual st fd N ps, Fun Γ.K x qual st a fd ∧ FnScope N ps (defScope st) ∧ Binds Γ.K fd ps [] ∧ ps.length = d.ar ∧ N.length = d.sl ∧ chkS D ⟨N, defScope st, none⟩ d.body (defBody st) = true
structure Tb (Γ : Gm) (G : GT) (D : Nm) (ft : Nat → Option FD) : Prop where
  fn : ∀ x f, D.fns.lookup x = some f → Γ.mg x = some (.ref (Γ.fa f))
  gv : ∀ x g, D.gvs.lookup x = some g → ∃ v u w, G.gv g = some v ∧ Γ.mg x = some w ∧ RelV u w ∧ ∀ L m H, RepV Γ L m H v u
  nb : ∀ x, x ∈ bNames → Γ.mg x = none
  ow : ∀ c, Γ.cok c = true → OwnOk Γ c
  df : ∀ f d, ft f = some d → DefOk Γ D d (Γ.fa f)
  kl : Kl Γ G D.ats
  ke : ∀ c, Γ.cok c = true → KlEq Γ G c
  km : ∀ x c, D.cls.lookup x = some c → Γ.mg x = some (.ref (Γ.ca c)) ∧ PySem.W.keepIn Γ.K (.ref (Γ.ca c)) = true ∧ KlMk Γ G c ∧ KlIs Γ c
  no : ∀ f, ft f = none → PySem.W.keepIn Γ.K (.ref (Γ.fa f)) = true ∧ ∃ fd ps, Binds Γ.K fd ps []
theorem start_rep {Γ : Gm} {L m : List Addr} {H : Hp} {args : List Vl} {vs : List V} {N : List Str} {n : Nat} (r : RepL Γ L m H args vs) (hn : N.length = n) : RepE Γ L m H (args.map some ++ List.replicate (n - args.length) none) (L2.start N vs) := by
  unfold L2.start
  rw [← r.length, hn]
  refine ⟨by simp only [List.length_append, List.length_map, List.length_replicate, r.length], fun i v e => ?_⟩
  by_cases hi : i < args.length
  · rw [List.getElem?_append_left (by rw [List.length_map]; exact hi)] at e
    rw [List.getElem?_map] at e
    cases ha : args[i]? with
    | none => rw [ha] at e; cases e
    | some w =>
      rw [ha] at e
      cases Option.some.inj (Option.some.inj e)
      obtain ⟨u, h1, h2⟩ := r.get ha
      refine ⟨u, ?_, h2⟩
      rw [List.getElem?_append_left (by rw [List.length_map, ← r.length]; exact hi), List.getElem?_map, h1]
      rfl
  · rw [List.getElem?_append_right (by rw [List.length_map]; omega)] at e
    have := List.mem_of_getElem? e
    rw [List.mem_replicate] at this
    cases this.2
theorem fnS {Γ : Gm} {G : GT} {D : Nm} {ft : Nat → Option FD} {n f : Nat} {d : FD} {x qual : Str} {st : Stmt} {fd : FuncData} {N ps : List Str} (V : Lv Γ G D (run G ft n) (2 * n)) (hf : ft f = some d) (F : Fun Γ.K x qual st (Γ.fa f) fd) (S : FnScope N ps (defScope st)) (h3 : ps.length = d.ar) (h4 : N.length = d.sl)
    (h5 : chkS D ⟨N, defScope st, none⟩ d.body (defBody st) = true) : FnOk Γ.P Γ.w Γ.K Γ.mg Γ.base (L2.CX Γ.P Γ.w) (2 * n + 1) (Γ.fa f) fd ps (spC Γ (run G ft (n + 1)) f) := by
  have open_ : ∀ {vs H Q E}, spC Γ (run G ft (n + 1)) f vs H Q E → ∃ L m h args, RepH Γ L m h H ∧ RepL Γ L m H args vs ∧ args.length = d.ar ∧ okG Γ (fun c d _ H' => E c d H') L m H [] (fun m' H' => RepV Γ L m' H') (endF d.frz h.length (evS G (run G ft n) d.body (args.map some ++ List.replicate (d.sl - d.ar) none) h)) Q := fun ⟨L, m, h, args, rh, ra, k⟩ => by
    unfold run at k
    rw [hf] at k
    dsimp only at k
    split at k
    · rename_i hl
      exact ⟨L, m, h, args, rh, ra, of_decide_eq_true hl, k⟩
    · exact k.elim
  refine Fun.okX (k := 2 * n) F S (fun vs H Q E z => ?_) fun cdv A outer s H vs Q E hr z => ?_
  · obtain ⟨L, m, h, args, rh, ra, hl, _⟩ := open_ z
    rw [← ra.length, hl, h3]
  · obtain ⟨L, m, h, args, rh, ra, hl, k⟩ := open_ z
    let W : WX := fun c d _ H' => E c d H'
    have C : Cn (cxOf (L2.CX Γ.P Γ.w) Γ.P Γ.w Γ.K Γ.mg Γ.base N qual (defScope st) (Γ.fa f) cdv A outer s H E) Γ W := ⟨rfl, rfl, rfl, rfl, rfl, rfl, S.nd, hr.units, takes_of rfl rfl rfl rfl⟩
    refine ⟨tS Γ W (evS G (run G ft n) d.body), sndS V (k := 2 * n) (S := ⟨N, defScope st, none⟩) ⟨C, rfl, rfl, fun _ => rfl, hr⟩ S.kind (passes_of rfl) d.body h5, L, m, h, args.map some ++ List.replicate (d.sl - d.ar) none, rh, ?_, ?_⟩
    · rw [← hl]
      exact start_rep ra h4
    · cases hr2 : evS G (run G ft n) d.body (args.map some ++ List.replicate (d.sl - d.ar) none) h with
      | bad =>
        rw [hr2] at k
        exact k
      | exc c p h' =>
        rw [hr2] at k
        exact fun m' H' d σ' g rh' rx => finX_ok rh rfl k m' H' d g rh' rx
      | ok o h' =>
        rw [hr2] at k
        cases o with
        | nx env => exact fun m' H' σ' g rh' re => fin_ok rh rfl k m' H' .non g rh' rfl
        | rt v => exact fun m' H' u g rh' rv => fin_ok rh rfl k m' H' u g rh' rv
        | bk env => exact k.elim
        | ct env => exact k.elim
theorem FnI.up {Γ : Gm} {cf : CF} {n f : Nat} (F : FnI Γ cf (n - 1) f) : FnI Γ cf n f := by
  obtain ⟨h1, fd, ps, h2, h3⟩ := F
  exact ⟨h1, fd, ps, h2.mono (Nat.sub_le _ _), h3⟩
theorem one_or {G : GT} {ft : Nat → Option FD} (n : Nat) : 1 ≤ 2 * n ∨ ∀ f xs h, run G ft n f xs h = .bad := by
  cases n with
  | zero => exact .inr fun _ _ _ => rfl
  | succ n => exact .inl (by omega)
theorem fnI {Γ : Gm} {G : GT} {D : Nm} {ft : Nat → Option FD} (T : Tb Γ G D ft) : ∀ n f, FnI Γ (run G ft n) (2 * n - 1) f
  | 0, f => by
    have no : ∀ {vs H Q E}, ¬ spC Γ (run G ft 0) f vs H Q E := fun ⟨_, _, _, _, _, _, k⟩ => k
    cases hf : ft f with
    | none =>
      obtain ⟨h1, fd, ps, h2⟩ := T.no f hf
      exact ⟨h1, fd, ps, ⟨fun vs H Q E z => (no z).elim, fun A outer s H a us vs Q E _ _ _ _ z => (no z).elim⟩, h2⟩
    | some d =>
      obtain ⟨x, qual, st, fd, N, ps, F, _, h2, _⟩ := (T.df f d hf).ex
      exact ⟨F.kp, fd, ps, ⟨fun vs H Q E z => (no z).elim, fun A outer s H a us vs Q E _ _ _ _ z => (no z).elim⟩, h2⟩
  | n + 1, f => by
    cases hf : ft f with
    | none =>
      obtain ⟨h1, fd, ps, h2⟩ := T.no f hf
      have no : ∀ {vs H Q E}, ¬ spC Γ (run G ft (n + 1)) f vs H Q E := fun ⟨_, _, _, _, _, _, k⟩ => by
        unfold run at k
        rw [hf] at k
        exact k
      exact ⟨h1, fd, ps, ⟨fun vs H Q E z => (no z).elim, fun A outer s H a us vs Q E _ _ _ _ z => (no z).elim⟩, h2⟩
    | some d =>
      obtain ⟨x, qual, st, fd, N, ps, F, S, h2, h3, h4, h5⟩ := (T.df f d hf).ex
      have V : Lv Γ G D (run G ft n) (2 * n) := ⟨T.fn, fun f => (fnI T n f).up, T.gv, T.nb, T.ow, fun f => fnI T n f, one_or n, T.kl, T.ke, T.km⟩
      exact ⟨F.kp, fd, ps, (fnS V hf F S h3 h4 h5).mono (by omega), h2⟩
theorem lvI {Γ : Gm} {G : GT} {D : Nm} {ft : Nat → Option FD} (T : Tb Γ G D ft) (n : Nat) : Lv Γ G D (run G ft n) (2 * n) := ⟨T.fn, fun f => (fnI T n f).up, T.gv, T.nb, T.ow, fun f => fnI T n f, one_or n, T.kl, T.ke, T.km⟩
end Mi
set_option Elab.async false
set_option linter.all false
set_option maxRecDepth 100000
set_option maxHeartbeats 4000000
namespace Mi
open PySem PySem.Spec PyProof.Rows L2
structure DK (K : PySem.W.Frag) (x : Str) (st : Stmt) (a : Addr) : Prop where
  ns : PySem.W.nsIn K mainGlobals x = some (some (.ref a))
  fn : ∃ fd, Fun K x x st a fd
def AllD (K : PySem.W.Frag) : List (Str × Stmt) → Prop
  | [] => True
  | (x, s) :: r => (∃ a, DK K x s a) ∧ AllD K r
def CV (K : PySem.W.Frag) (x : Str) (v : Vl) : Prop := ∃ u w, PySem.W.nsIn K mainGlobals x = some (some w) ∧ RelV u w ∧ ∀ (Γ : Gm) L m H, Γ.K = K → RepV Γ L m H v u
theorem CV.int {K : PySem.W.Frag} {x : Str} {i : Int} {t : Tok} (h : PySem.W.nsIn K mainGlobals x = some (some (.int i t))) : CV K x (.int i) := ⟨.int i, .int i t, h, ⟨t, rfl⟩, fun _ _ _ _ _ => rfl⟩
theorem CV.str {K : PySem.W.Frag} {x : Str} {s : List Nat} {t : Tok} (h : PySem.W.nsIn K mainGlobals x = some (some (.str ⟨s.toArray⟩ t))) : CV K x (.str s) := ⟨.str ⟨s.toArray⟩, .str ⟨s.toArray⟩ t, h, ⟨t, rfl⟩, fun _ _ _ _ _ => rfl⟩
theorem CV.bl {K : PySem.W.Frag} {x : Str} {b : Bool} (h : PySem.W.nsIn K mainGlobals x = some (some (.bool b))) : CV K x (.bl b) := ⟨.bl b, .bool b, h, rfl, fun _ _ _ _ _ => rfl⟩
theorem CV.non {K : PySem.W.Frag} {x : Str} (h : PySem.W.nsIn K mainGlobals x = some (some .none)) : CV K x .non := ⟨.non, .none, h, rfl, fun _ _ _ _ _ => rfl⟩
def AllV (K : PySem.W.Frag) : List (Str × Vl) → Prop
  | [] => True
  | (x, v) :: r => CV K x v ∧ AllV K r
def AllN (K : PySem.W.Frag) : List Str → Prop
  | [] => True
  | x :: r => PySem.W.nsIn K mainGlobals x = some none ∧ AllN K r
theorem AllD.get {K : PySem.W.Frag} : ∀ {l : List (Str × Stmt)} {i : Nat} {x : Str} {s : Stmt}, AllD K l → l[i]? = some (x, s) → ∃ a, DK K x s a
  | [], _, _, _, _, e => by simp at e
  | (y, t) :: r, 0, x, s, h, e => by
    simp at e
    obtain ⟨rfl, rfl⟩ := e
    exact h.1
  | (y, t) :: r, i + 1, x, s, h, e => AllD.get (l := r) (i := i) h.2 (by simpa using e)
theorem AllV.get {K : PySem.W.Frag} : ∀ {l : List (Str × Vl)} {i : Nat} {x : Str} {v : Vl}, AllV K l → l[i]? = some (x, v) → CV K x v
  | [], _, _, _, _, e => by simp at e
  | (y, t) :: r, 0, x, s, h, e => by
    simp at e
    obtain ⟨rfl, rfl⟩ := e
    exact h.1
  | (y, t) :: r, i + 1, x, s, h, e => AllV.get (l := r) (i := i) h.2 (by simpa using e)
theorem AllN.mem {K : PySem.W.Frag} : ∀ {l : List Str} {x : Str}, AllN K l → x ∈ l → PySem.W.nsIn K mainGlobals x = some none
  | y :: r, x, h, e => by
    rcases List.mem_cons.mp e with rfl | e
    · exact h.1
    · exact AllN.mem h.2 e
def numb (n : Nat) : List Str → List (Str × Nat)
  | [] => []
  | x :: r => (x, n) :: numb (n + 1) r
theorem numb_get : ∀ {l : List Str} {n : Nat} {x : Str} {i : Nat}, (numb n l).lookup x = some i → n ≤ i ∧ l[i - n]? = some x
  | [], _, _, _, e => by cases e
  | y :: r, n, x, i, e => by
    have e : ((y, n) :: numb (n + 1) r).lookup x = some i := e
    rw [List.lookup_cons] at e
    cases hb : x == y with
    | true =>
      rw [hb] at e
      cases Option.some.inj e
      have := eq_of_beq hb
      subst this
      exact ⟨Nat.le_refl _, by simp⟩
    | false =>
      rw [hb] at e
      obtain ⟨h1, h2⟩ := numb_get (l := r) (n := n + 1) e
      refine ⟨by omega, ?_⟩
      have : i - n = (i - (n + 1)) + 1 := by omega
      rw [this]
      exact h2
structure DS (D : Nm) (d : FD) (x : Str) (st : Stmt) (N ps : List Str) : Prop where
  sc : FnScope N ps (defScope st)
  bd : ∀ (kV doc pm : Value) (an : Option Addr) (cdv ct : Value) (us : List Value), us.length = ps.length → bindArgs (PySem.W.fnOf x x (defArgs st) (defBody st) (defScope st) .none kV doc pm an cdv ct) ⟨us, []⟩ = pure (ps.zip us)
  ar : ps.length = d.ar
  sl : N.length = d.sl
  ck : chkS D ⟨N, defScope st, none⟩ d.body (defBody st) = true
structure TT' where
  d : FD
  x : Str
  st : Stmt
def mkD (tab : List TT') (cs : List (Str × Vl)) : Nm := { fns := numb 0 (tab.map (·.x)), gvs := numb 0 (cs.map (·.1)) ++ numb cs.length (tab.map (·.x)) }
def gvF (n : Nat) (cs : List Vl) (g : Nat) : Option Vl := match cs[g]? with
  | some v => some v
  | none => match decide (g < n + cs.length) with
    | true => some (.fn (g - cs.length))
    | false => none
def mkG (n : Nat) (cs : List Vl) : GT := ⟨gvF n cs, fun _ _ => none, fun _ => none, fun _ => none, fun _ => none⟩
def mkF (ds : List FD) : Nat → Option FD := fun f => ds[f]?
theorem lookup_app {α : Type} {l r : List (Str × α)} {x : Str} {v : α} (h : (l ++ r).lookup x = some v) : l.lookup x = some v ∨ r.lookup x = some v := by
  induction l with
  | nil => exact .inr h
  | cons y l ih =>
    obtain ⟨k, u⟩ := y
    have h : ((k, u) :: (l ++ r)).lookup x = some v := h
    rw [List.lookup_cons] at h ⊢
    cases hb : x == k with
    | true => rw [hb] at h; exact .inl h
    | false => rw [hb] at h; exact ih h
def spLaw (K : PySem.W.Frag) : Sp := fun vs H Q _ => ∃ (a : Addr) (ns : List Int), vs = [.ref a] ∧ ns.length ≤ 63 ∧ Only H ∧ SqL K H a (ns.map V.int) ∧ ∀ H', Q (.bl true) H'
def AllS (D : Nm) : List TT' → Prop
  | [] => True
  | t :: r => (∃ N ps, DS D t.d t.x t.st N ps) ∧ AllS D r
theorem AllS.get {D : Nm} : ∀ {l : List TT'} (f : Nat) (t : TT'), AllS D l → l[f]? = some t → ∃ N ps, DS D t.d t.x t.st N ps
  | [], _, _, _, e => by simp at e
  | y :: r, 0, t, h, e => by
    simp at e
    subst e
    exact h.1
  | y :: r, i + 1, t, h, e => AllS.get (l := r) i t h.2 (by simpa using e)
theorem law_end {l : PySem.W.OpenLaw} {w : World} {K : PySem.W.Frag} {mg : Str → Option Value} {fa : Addr} {h : Heap} {tab : List TT'} {cs : List (Str × Vl)} {n lf : Nat} {d : FD} {st : Stmt} (X : K.In h) (G0 : h.Ns mainGlobals mg) (hfa : mg "law" = some (.ref fa))
    (hDS : ∀ (f : Nat) (t : TT'), tab[f]? = some t → ∃ N ps, DS (mkD tab cs) t.d t.x t.st N ps) (hL : tab[lf]? = some ⟨d, "law", st⟩) (hS : ∃ N, DS (mkD tab cs) d "law" st N ["script"]) (hA : AllD K (tab.map fun t => (t.x, t.st))) (hC : AllV K cs) (hN : AllN K bNames)
    (hlaw : ∀ ns : List Int, ns.length ≤ 63 → ∃ h', run (mkG tab.length (cs.map (·.2))) (mkF (tab.map (·.d))) (n + 1) lf [.scr (ns.map .int)] [] = .ok (.bl true) h') :
    ∃ fd : FuncData, (∀ (s : Shared) (v : Value), BindsTo s fd ⟨[v], []⟩ [("script", v)]) ∧ ∀ base : Heap, K.In base → base.Ns mainGlobals mg → FnOk l.prog w K mg base (L2.CX l.prog w) (2 * n + 1) fa fd ["script"] (spLaw K) := by
  have at_ : ∀ f : Nat, ∃ a, ∀ t, tab[f]? = some t → DK K t.x t.st a := fun f => by
    cases hf : tab[f]? with
    | none => exact ⟨0, fun t e => by cases e⟩
    | some t =>
      obtain ⟨a, ha⟩ := AllD.get (i := f) (x := t.x) (s := t.st) hA (by rw [List.getElem?_map, hf]; rfl)
      exact ⟨a, fun t' e => by cases e; exact ha⟩
  let adr : Nat → Addr := fun f => if f < tab.length then Classical.choose (at_ f) else Classical.choose (at_ lf)
  have adr_ok : ∀ f t, tab[f]? = some t → DK K t.x t.st (adr f) := fun f t e => by
    have hl := (List.getElem?_eq_some_iff.mp e).1
    show DK K t.x t.st (if f < tab.length then Classical.choose (at_ f) else Classical.choose (at_ lf))
    rw [if_pos hl]
    exact Classical.choose_spec (at_ f) t e
  have adr_no : ∀ f, tab[f]? = none → DK K "law" st (adr f) := fun f e => by
    have hl := List.getElem?_eq_none_iff.mp e
    show DK K "law" st (if f < tab.length then Classical.choose (at_ f) else Classical.choose (at_ lf))
    rw [if_neg (by omega)]
    exact Classical.choose_spec (at_ lf) _ hL
  have dl := adr_ok lf _ hL
  have efa : fa = adr lf := by
    have := hfa.symm.trans (PySem.W.mg_of X G0 dl.ns)
    cases this
    rfl
  obtain ⟨fd, F⟩ := dl.fn
  obtain ⟨N, S⟩ := hS
  refine ⟨fd, fun s v => ?_, fun base KB GB => ?_⟩
  · obtain ⟨oc, od, kV, doc, pm, an, cdv, ct, osl, rfl, lk, hcd⟩ := F.ex
    exact .of_eq (S.bd kV doc pm an cdv ct [v] rfl)
  let Γ : Gm := { P := l.prog, w := w, K := K, mg := mg, base := base, fa := adr, ca := fun _ => 0, xa := fun _ => 0, xf := fun _ => "", cok := fun _ => false }
  have T : Tb Γ (mkG tab.length (cs.map (·.2))) (mkD tab cs) (mkF (tab.map (·.d))) := by
    refine ⟨fun x f e => ?_, fun x g e => ?_, fun x hx => ?_, fun c z => (by cases z), fun f d e => ?_, ⟨fun _ _ _ _ _ z => (by cases z), fun _ _ _ _ _ z => (by cases z)⟩, fun _ z => (by cases z), fun _ _ z => (by cases z), fun f e => ?_⟩
    · obtain ⟨_, e2⟩ := numb_get e
      rw [Nat.sub_zero, List.getElem?_map] at e2
      cases ht : tab[f]? with
      | none => rw [ht] at e2; cases e2
      | some t =>
        rw [ht] at e2
        cases Option.some.inj e2
        exact PySem.W.mg_of X G0 (adr_ok f t ht).ns
    · rcases lookup_app e with e | e
      · obtain ⟨_, e2⟩ := numb_get e
        rw [Nat.sub_zero, List.getElem?_map] at e2
        cases ht : cs[g]? with
        | none => rw [ht] at e2; cases e2
        | some t =>
          rw [ht] at e2
          cases Option.some.inj e2
          obtain ⟨u, w', h1, h2, h3⟩ := AllV.get (x := t.1) (v := t.2) hC ht
          refine ⟨t.2, u, w', ?_, PySem.W.mg_of X G0 h1, h2, fun L m H => h3 Γ L m H rfl⟩
          show gvF tab.length (cs.map (·.2)) g = _
          unfold gvF
          rw [List.getElem?_map, ht]
          rfl
      · obtain ⟨e1, e2⟩ := numb_get e
        rw [List.getElem?_map] at e2
        cases ht : tab[g - cs.length]? with
        | none => rw [ht] at e2; cases e2
        | some t =>
          rw [ht] at e2
          cases Option.some.inj e2
          have hl := (List.getElem?_eq_some_iff.mp ht).1
          refine ⟨.fn (g - cs.length), .ref (adr (g - cs.length)), .ref (adr (g - cs.length)), ?_, PySem.W.mg_of X G0 (adr_ok _ t ht).ns, rfl, fun L m H => rfl⟩
          show gvF tab.length (cs.map (·.2)) g = _
          unfold gvF
          rw [List.getElem?_eq_none (by rw [List.length_map]; exact e1), List.length_map, decide_eq_true (by omega)]
    · exact PySem.W.mg_none_of X G0 (hN.mem hx)
    · have e : (tab.map (·.d))[f]? = some d := e
      rw [List.getElem?_map] at e
      cases ht : tab[f]? with
      | none => rw [ht] at e; cases e
      | some t =>
        rw [ht] at e
        cases Option.some.inj e
        obtain ⟨N', ps, S'⟩ := hDS f t ht
        obtain ⟨fd', F'⟩ := (adr_ok f t ht).fn
        exact ⟨t.x, t.x, t.st, fd', N', ps, F', S'.sc, F'.binds S'.bd, S'.ar, S'.sl, S'.ck⟩
    · have e : (tab.map (·.d))[f]? = none := e
      rw [List.getElem?_map] at e
      cases ht : tab[f]? with
      | some t => rw [ht] at e; cases e
      | none =>
        obtain ⟨fd', F'⟩ := (adr_no f ht).fn
        exact ⟨F'.kp, fd', ["script"], F'.binds S.bd⟩
  rw [efa]
  have hf : mkF (tab.map (·.d)) lf = some d := by
    show (tab.map (·.d))[lf]? = _
    rw [List.getElem?_map, hL]
    rfl
  refine FnOk.imp (fnS (Γ := Γ) (lvI T n) hf F S.sc S.ar S.sl S.ck) fun vs H Q E z => ?_
  obtain ⟨a, ns, rfl, hl, ho, hs, q⟩ := z
  obtain ⟨h', e⟩ := hlaw ns hl
  refine ⟨[], [], [], [.scr (ns.map .int)], ⟨rfl, .nil, fun _ z => (by cases z), fun i a o e => (by simp at e), fun _ z => (by cases z)⟩, ⟨⟨a, ns.map V.int, rfl, ?_, ints_map⟩, trivial⟩, ?_⟩
  · rcases hs with (hs | ⟨o, hs⟩) | hs
    · rcases ho a with z | ⟨o, xs, z⟩
      · rw [hs] at z; cases z
      · rw [hs] at z; cases z
    · exact .inl ⟨o, hs⟩
    · obtain ⟨o, its, n, h1, h2, h3, h4, h5, h6⟩ := hs
      exact .inr ⟨o, its, n, h1, h2, h3, h4, h5, h6⟩
  · rw [e]
    intro m' H' u _ _ r
    cases (show u = .bl true from r)
    exact q H'
end Mi
set_option Elab.async false
set_option linter.all false
set_option maxRecDepth 100000
set_option maxHeartbeats 4000000
namespace Mi
open PySem PySem.Spec PyProof.Rows L2
inductive Wh where
  | mod
  | ini (c : Nat)
  | prp (c : Nat)
  | eqm (c : Nat)
  | oth (c : Nat)
  deriving DecidableEq
structure TC where
  d : FD
  x : Str
  q : Str
  st : Stmt
  wh : Wh
structure KR where
  x : Str
  sl : List (Str × Nat)
  n : Nat
structure DSc (D : Nm) (d : FD) (x q : Str) (st : Stmt) (N ps : List Str) : Prop where
  sc : FnScope N ps (defScope st)
  bd : ∀ (kV doc pm : Value) (an : Option Addr) (cdv ct : Value) (us : List Value), us.length = ps.length → bindArgs (PySem.W.fnOf x q (defArgs st) (defBody st) (defScope st) .none kV doc pm an cdv ct) ⟨us, []⟩ = pure (ps.zip us)
  ar : ps.length = d.ar
  sl : N.length = d.sl
  ck : chkS D ⟨N, defScope st, none⟩ d.body (defBody st) = true
def AllSc (D : Nm) : List TC → Prop
  | [] => True
  | t :: r => (∃ N ps, DSc D t.d t.x t.q t.st N ps) ∧ AllSc D r
theorem AllSc.get {D : Nm} : ∀ {l : List TC} (f : Nat) (t : TC), AllSc D l → l[f]? = some t → ∃ N ps, DSc D t.d t.x t.q t.st N ps
  | [], _, _, _, e => by simp at e
  | y :: r, 0, t, h, e => by
    simp at e
    subst e
    exact h.1
  | y :: r, i + 1, t, h, e => AllSc.get (l := r) i t h.2 (by simpa using e)
def fnsOf (n : Nat) : List TC → List (Str × Nat)
  | [] => []
  | t :: r => match t.wh with
    | .mod => (t.x, n) :: fnsOf (n + 1) r
    | _ => fnsOf (n + 1) r
theorem fnsOf_get : ∀ {l : List TC} {n : Nat} {x : Str} {i : Nat}, (fnsOf n l).lookup x = some i → n ≤ i ∧ ∃ t, l[i - n]? = some t ∧ t.wh = .mod ∧ t.x = x
  | [], _, _, _, e => by cases e
  | y :: r, n, x, i, e => by
    have rest : (fnsOf (n + 1) r).lookup x = some i → n ≤ i ∧ ∃ t, (y :: r)[i - n]? = some t ∧ t.wh = .mod ∧ t.x = x := fun e => by
      obtain ⟨h1, t, h2, h3⟩ := fnsOf_get (l := r) (n := n + 1) e
      refine ⟨by omega, t, ?_, h3⟩
      rw [show i - n = (i - (n + 1)) + 1 by omega]
      exact h2
    unfold fnsOf at e
    split at e
    · rename_i hw
      rw [List.lookup_cons] at e
      cases hb : x == y.x with
      | true =>
        rw [hb] at e
        cases Option.some.inj e
        exact ⟨Nat.le_refl _, y, by rw [Nat.sub_self]; rfl, hw, (eq_of_beq hb).symm⟩
      | false =>
        rw [hb] at e
        exact rest e
    · exact rest e
def shift (k : Nat) : List (Str × Nat) → List (Str × Nat) := List.map fun p => (p.1, p.2 + k)
theorem shift_get {k : Nat} : ∀ {l : List (Str × Nat)} {x : Str} {i : Nat}, (shift k l).lookup x = some i → k ≤ i ∧ l.lookup x = some (i - k)
  | [], _, _, e => by cases e
  | (y, j) :: r, x, i, e => by
    have e : ((y, j + k) :: shift k r).lookup x = some i := e
    rw [List.lookup_cons] at e ⊢
    cases hb : x == y with
    | true =>
      rw [hb] at e
      cases Option.some.inj e
      exact ⟨Nat.le_add_left _ _, by rw [Nat.add_sub_cancel]⟩
    | false =>
      rw [hb] at e
      exact shift_get e
def mkDc (tab : List TC) (cs : List (Str × Vl)) (kr : List KR) (ats : List Str) : Nm := { fns := fnsOf 0 tab, gvs := numb 0 (cs.map (·.1)) ++ shift cs.length (fnsOf 0 tab), ats := numb 0 ats, cls := numb 0 (kr.map (·.x)) }
def findW (w : Wh) (x : Str) (n : Nat) : List TC → Option Nat
  | [] => none
  | t :: r => match decide (t.wh = w) with
    | true => match decide (t.x = x) with
      | true => some n
      | false => findW w x (n + 1) r
    | false => findW w x (n + 1) r
theorem findW_get {w : Wh} {x : Str} : ∀ {l : List TC} {n i : Nat}, findW w x n l = some i → n ≤ i ∧ ∃ t, l[i - n]? = some t ∧ t.wh = w ∧ t.x = x
  | [], _, _, e => by cases e
  | y :: r, n, i, e => by
    have rest : findW w x (n + 1) r = some i → n ≤ i ∧ ∃ t, (y :: r)[i - n]? = some t ∧ t.wh = w ∧ t.x = x := fun e => by
      obtain ⟨h1, t, h2, h3⟩ := findW_get (l := r) (n := n + 1) e
      refine ⟨by omega, t, ?_, h3⟩
      rw [show i - n = (i - (n + 1)) + 1 by omega]
      exact h2
    unfold findW at e
    split at e
    · rename_i h1
      split at e
      · rename_i h2
        cases Option.some.inj e
        exact ⟨Nat.le_refl _, y, by rw [Nat.sub_self]; rfl, of_decide_eq_true h1, of_decide_eq_true h2⟩
      · exact rest e
    · exact rest e
def atF (tab : List TC) (kr : List KR) (ats : List Str) (c f : Nat) : Option (Nat ⊕ Nat) := match kr[c]? with
  | some r => match ats[f]? with
    | some x => match r.sl.lookup x with
      | some i => some (.inl i)
      | none => match findW (.prp c) x 0 tab with
        | some g => some (.inr g)
        | none => none
    | none => none
  | none => none
def iniF (tab : List TC) (kr : List KR) (c : Nat) : Option (Nat × Nat) := match kr[c]? with
  | some r => match findW (.ini c) "__init__" 0 tab with
    | some g => some (g, r.n)
    | none => none
  | none => none
def mkGc (tab : List TC) (cs : List Vl) (kr : List KR) (ats : List Str) : GT := ⟨gvF tab.length cs, atF tab kr ats, iniF tab kr, fun _ => none, fun c => findW (.eqm c) "__eq__" 0 tab⟩
def WhK (K : PySem.W.Frag) (cas : List Addr) (x : Str) (a : Addr) : Wh → Prop
  | .mod => PySem.W.nsIn K mainGlobals x = some (some (.ref a))
  | .ini c => ∃ C, cas[c]? = some C ∧ L2.Mk K C a
  | .prp c => ∃ C p rest, cas[c]? = some C ∧ PySem.W.findIn K (.ref C) x = some (some (.ref p)) ∧ PySem.W.specialIn K (.ref p) "__get__" = some (some (.builtin "property.__get__")) ∧ PySem.W.takesIn K (.ref p) = some true ∧ PySem.W.recIn K p "property" = some (.ref a :: rest)
  | .eqm c => ∃ C, cas[c]? = some C ∧ PySem.W.findIn K (.ref C) x = some (some (.ref a)) ∧ PySem.W.isFn K (.ref a) = true
  | .oth c => ∃ C, cas[c]? = some C ∧ PySem.W.findIn K (.ref C) x = some (some (.ref a))
structure DKc (K : PySem.W.Frag) (cas : List Addr) (t : TC) (a : Addr) : Prop where
  wh : WhK K cas t.x a t.wh
  fn : ∃ fd, Fun K t.x t.q t.st a fd
theorem dkMod {K : PySem.W.Frag} {cas : List Addr} {d : FD} {x q : Str} {st : Stmt} {a : Addr} (h : PySem.W.nsIn K mainGlobals x = some (some (.ref a))) (f : ∃ fd, Fun K x q st a fd) : DKc K cas ⟨d, x, q, st, .mod⟩ a := ⟨h, f⟩
theorem dkIni {K : PySem.W.Frag} {cas : List Addr} {d : FD} {x q : Str} {st : Stmt} {a C : Addr} {c : Nat} (hc : cas[c]? = some C) (h : L2.Mk K C a) (f : ∃ fd, Fun K x q st a fd) : DKc K cas ⟨d, x, q, st, .ini c⟩ a := ⟨⟨C, hc, h⟩, f⟩
theorem dkPrp {K : PySem.W.Frag} {cas : List Addr} {d : FD} {x q : Str} {st : Stmt} {a C p : Addr} {c : Nat} {rest : List Value} (hc : cas[c]? = some C) (h1 : PySem.W.findIn K (.ref C) x = some (some (.ref p))) (h2 : PySem.W.specialIn K (.ref p) "__get__" = some (some (.builtin "property.__get__"))) (h3 : PySem.W.takesIn K (.ref p) = some true) (h4 : PySem.W.recIn K p "property" = some (.ref a :: rest)) (f : ∃ fd, Fun K x q st a fd) : DKc K cas ⟨d, x, q, st, .prp c⟩ a := ⟨⟨C, p, rest, hc, h1, h2, h3, h4⟩, f⟩
theorem dkEqm {K : PySem.W.Frag} {cas : List Addr} {d : FD} {x q : Str} {st : Stmt} {a C : Addr} {c : Nat} (hc : cas[c]? = some C) (h1 : PySem.W.findIn K (.ref C) x = some (some (.ref a))) (h2 : PySem.W.isFn K (.ref a) = true) (f : ∃ fd, Fun K x q st a fd) : DKc K cas ⟨d, x, q, st, .eqm c⟩ a := ⟨⟨C, hc, h1, h2⟩, f⟩
theorem dkOth {K : PySem.W.Frag} {cas : List Addr} {d : FD} {x q : Str} {st : Stmt} {a C : Addr} {c : Nat} (hc : cas[c]? = some C) (h1 : PySem.W.findIn K (.ref C) x = some (some (.ref a))) (f : ∃ fd, Fun K x q st a fd) : DKc K cas ⟨d, x, q, st, .oth c⟩ a := ⟨⟨C, hc, h1⟩, f⟩
def AllDc (K : PySem.W.Frag) (cas : List Addr) : List TC → Prop
  | [] => True
  | t :: r => (∃ a, DKc K cas t a) ∧ AllDc K cas r
theorem AllDc.get {K : PySem.W.Frag} {cas : List Addr} : ∀ {l : List TC} {i : Nat} {t : TC}, AllDc K cas l → l[i]? = some t → ∃ a, DKc K cas t a
  | [], _, _, _, e => by simp at e
  | y :: r, 0, t, h, e => by
    simp at e
    subst e
    exact h.1
  | y :: r, i + 1, t, h, e => AllDc.get (l := r) (i := i) h.2 (by simpa using e)
def AllSl (K : PySem.W.Frag) (C : Addr) : List (Str × Nat) → Prop
  | [] => True
  | (x, i) :: r => (∃ p, L2.Slt K C x i p) ∧ AllSl K C r
theorem AllSl.get {K : PySem.W.Frag} {C : Addr} : ∀ {l : List (Str × Nat)} {x : Str} {i : Nat}, AllSl K C l → l.lookup x = some i → ∃ p, L2.Slt K C x i p
  | [], _, _, _, e => by cases e
  | (y, j) :: r, x, i, h, e => by
    rw [List.lookup_cons] at e
    cases hb : x == y with
    | true =>
      rw [hb] at e
      cases Option.some.inj e
      rw [eq_of_beq hb]
      exact h.1
    | false =>
      rw [hb] at e
      exact AllSl.get h.2 e
def AllT (K : PySem.W.Frag) (C : Addr) (b : Bool) : List String → Prop
  | [] => True
  | T :: r => (b = true → PySem.W.kitOne K (.type T) (.ref C) = some false) ∧ (b = false → PySem.W.kitOne K (.ref C) (.type T) = some false) ∧ AllT K C b r
theorem kit_refT {K : PySem.W.Frag} {C : Addr} {T : String} {b : Bool} (hm : PySem.W.kitMeta T = true) (hs : PySem.W.subIn K (.ref C) (.type T) = some b) : PySem.W.kitOne K (.ref C) (.type T) = some b := by
  unfold PySem.W.kitOne
  rw [if_neg (by simp)]
  show (if PySem.W.kitMeta T = true then PySem.W.subIn K (.ref C) (.type T) else none) = _
  rw [if_pos hm, hs]
theorem kit_tref {K : PySem.W.Frag} {t : Value} {C : Addr} {b : Bool} (ne : (t == Value.ref C) = false) (hc : PySem.W.isClsIn K C = true) (ht : PySem.W.typeIn K (.ref C) = some (.type "type")) (hs : PySem.W.subIn K t (.ref C) = some b) : PySem.W.kitOne K t (.ref C) = some b := by
  unfold PySem.W.kitOne
  rw [ne, if_neg Bool.false_ne_true]
  show (if ((PySem.W.clsIn K C).isSome && PySem.W.typeIn K (.ref C) == some (.type "type")) = true then PySem.W.subIn K t (.ref C) else none) = _
  rw [show (PySem.W.clsIn K C).isSome = true from hc, ht, if_pos (by decide), hs]
theorem kit_self {K : PySem.W.Frag} {C : Addr} : PySem.W.kitOne K (.ref C) (.ref C) = some true := by
  unfold PySem.W.kitOne
  rw [if_pos (by simp)]
structure KF (K : PySem.W.Frag) (C : Addr) (r : KR) : Prop where
  ns : PySem.W.nsIn K mainGlobals r.x = some (some (.ref C))
  kp : PySem.W.keepIn K (.ref C) = true
  cls : L2.SCls K C
  fc : PySem.W.findIn K (.ref C) "__class__" = some (some (.builtin "object.__class__"))
  sp : PySem.W.specialIn K (.builtin "object.__class__") "__get__" = some (some (.builtin "getset_descriptor.__get__"))
  tk : PySem.W.takesIn K (.builtin "object.__class__") = some true
  mro : PySem.W.mroIn K C (.type "object") = some true
  mkn : PySem.W.makesIn K C = true
  nn : PySem.W.findIn K (.ref C) "__ne__" = some (some (.builtin "object.__ne__"))
  ty : PySem.W.typeIn K (.ref C) = some (.type "type")
  t1 : PySem.W.subIn K (.ref C) (.type "int") = some false
  t2 : PySem.W.subIn K (.ref C) (.type "bool") = some false
  t3 : PySem.W.subIn K (.ref C) (.type "str") = some false
  t4 : PySem.W.subIn K (.ref C) (.type "tuple") = some false
  t5 : PySem.W.subIn K (.ref C) (.type "list") = some false
  u0 : PySem.W.subIn K (.type "NoneType") (.ref C) = some false
  u1 : PySem.W.subIn K (.type "int") (.ref C) = some false
  u2 : PySem.W.subIn K (.type "bool") (.ref C) = some false
  u3 : PySem.W.subIn K (.type "str") (.ref C) = some false
  u4 : PySem.W.subIn K (.type "tuple") (.ref C) = some false
  u5 : PySem.W.subIn K (.type "list") (.ref C) = some false
  sl : AllSl K C r.sl
def AllKF (K : PySem.W.Frag) : List Addr → List KR → Prop
  | [], [] => True
  | C :: cas, r :: kr => KF K C r ∧ AllKF K cas kr
  | _, _ => False
theorem AllKF.get {K : PySem.W.Frag} : ∀ {cas : List Addr} {kr : List KR} {c : Nat} {r : KR}, AllKF K cas kr → kr[c]? = some r → ∃ C, cas[c]? = some C ∧ KF K C r
  | [], [], _, _, _, e => by simp at e
  | C :: cas, y :: kr, 0, r, h, e => by
    simp at e
    subst e
    exact ⟨C, rfl, h.1⟩
  | C :: cas, y :: kr, c + 1, r, h, e => by
    obtain ⟨D, h1, h2⟩ := AllKF.get (cas := cas) (kr := kr) (c := c) h.2 (by simpa using e)
    exact ⟨D, by simpa using h1, h2⟩
  | [], _ :: _, _, _, h, _ => h.elim
  | _ :: _, [], _, _, h, _ => h.elim
theorem AllKF.len {K : PySem.W.Frag} : ∀ {cas : List Addr} {kr : List KR}, AllKF K cas kr → cas.length = kr.length
  | [], [], _ => rfl
  | C :: cas, y :: kr, h => congrArg (· + 1) (AllKF.len h.2)
  | [], _ :: _, h => h.elim
  | _ :: _, [], h => h.elim
def AllOw (K : PySem.W.Frag) (cas : List Addr) : Prop := ∀ (c d : Nat) (C E : Addr), cas[c]? = some C → cas[d]? = some E → PySem.W.kitOne K (.ref E) (.ref C) = some (d == c)
theorem nf_of {K : PySem.W.Frag} {C : Addr} {tb : Value} (h : PySem.W.subIn K tb (.ref C) = some false) : PySem.W.notFirst K C tb = true := by
  unfold PySem.W.notFirst
  rw [h]
  simp
theorem law_endC {l : PySem.W.OpenLaw} {w : World} {K : PySem.W.Frag} {mg : Str → Option Value} {fa : Addr} {h : Heap} {tab : List TC} {cs : List (Str × Vl)} {kr : List KR} {ats : List Str} {n lf : Nat} {d : FD} {st : Stmt} (X : K.In h) (G0 : h.Ns mainGlobals mg) (hfa : mg "law" = some (.ref fa))
    (hDS : ∀ (f : Nat) (t : TC), tab[f]? = some t → ∃ N ps, DSc (mkDc tab cs kr ats) t.d t.x t.q t.st N ps) (hL : tab[lf]? = some ⟨d, "law", "law", st, .mod⟩) (hS : ∃ N, DSc (mkDc tab cs kr ats) d "law" "law" st N ["script"])
    (hA : ∃ cas, AllKF K cas kr ∧ AllOw K cas ∧ AllDc K cas tab) (hC : AllV K cs) (hN : AllN K bNames)
    (hlaw : ∀ ns : List Int, ns.length ≤ 63 → ∃ h', run (mkGc tab (cs.map (·.2)) kr ats) (mkF (tab.map (·.d))) (n + 1) lf [.scr (ns.map .int)] [] = .ok (.bl true) h') :
    ∃ fd : FuncData, (∀ (s : Shared) (v : Value), BindsTo s fd ⟨[v], []⟩ [("script", v)]) ∧ ∀ base : Heap, K.In base → base.Ns mainGlobals mg → FnOk l.prog w K mg base (L2.CX l.prog w) (2 * n + 1) fa fd ["script"] (spLaw K) := by
  obtain ⟨cas, hK, hO, hA⟩ := hA
  have at_ : ∀ f : Nat, ∃ a, ∀ t, tab[f]? = some t → DKc K cas t a := fun f => by
    cases hf : tab[f]? with
    | none => exact ⟨0, fun t e => by cases e⟩
    | some t =>
      obtain ⟨a, ha⟩ := AllDc.get hA hf
      exact ⟨a, fun t' e => by cases e; exact ha⟩
  let adr : Nat → Addr := fun f => if f < tab.length then Classical.choose (at_ f) else Classical.choose (at_ lf)
  have adr_ok : ∀ f t, tab[f]? = some t → DKc K cas t (adr f) := fun f t e => by
    have hl := (List.getElem?_eq_some_iff.mp e).1
    show DKc K cas t (if f < tab.length then Classical.choose (at_ f) else Classical.choose (at_ lf))
    rw [if_pos hl]
    exact Classical.choose_spec (at_ f) t e
  have adr_no : ∀ f, tab[f]? = none → DKc K cas ⟨d, "law", "law", st, .mod⟩ (adr f) := fun f e => by
    have hl := List.getElem?_eq_none_iff.mp e
    show DKc K cas _ (if f < tab.length then Classical.choose (at_ f) else Classical.choose (at_ lf))
    rw [if_neg (by omega)]
    exact Classical.choose_spec (at_ lf) _ hL
  have dl := adr_ok lf _ hL
  have efa : fa = adr lf := by
    have := hfa.symm.trans (PySem.W.mg_of X G0 (show PySem.W.nsIn K mainGlobals "law" = some (some (.ref (adr lf))) from dl.wh))
    cases this
    rfl
  obtain ⟨fd, F⟩ := dl.fn
  obtain ⟨N, S⟩ := hS
  refine ⟨fd, fun s v => ?_, fun base KB GB => ?_⟩
  · obtain ⟨oc, od, kV, doc, pm, an, cdv, ct, osl, rfl, lk, hcd⟩ := F.ex
    exact .of_eq (S.bd kV doc pm an cdv ct [v] rfl)
  let Γ : Gm := { P := l.prog, w := w, K := K, mg := mg, base := base, fa := adr, ca := fun c => cas.getD c 0, xa := fun _ => 0, xf := fun _ => "", cok := fun c => decide (c < kr.length) }
  have ca_of : ∀ c C, cas[c]? = some C → Γ.ca c = C := fun c C e => by
    show cas.getD c 0 = C
    rw [List.getD_eq_getElem?_getD, e]
    rfl
  have kf : ∀ c r, kr[c]? = some r → KF K (Γ.ca c) r := fun c r e => by
    obtain ⟨C, h1, h2⟩ := hK.get e
    rw [ca_of c C h1]
    exact h2
  have kr_of : ∀ c, Γ.cok c = true → ∃ r, kr[c]? = some r := fun c e => ⟨kr[c]'(of_decide_eq_true e), List.getElem?_eq_getElem _⟩
  have own : ∀ c, Γ.cok c = true → OwnOk Γ c := fun c e => by
    obtain ⟨r, er⟩ := kr_of c e
    have k := kf c r er
    refine ⟨k.cls, k.fc, k.sp, k.tk, k.mro, fun T hT => ?_⟩
    simp only [List.mem_cons, List.not_mem_nil, or_false] at hT
    rcases hT with rfl | rfl | rfl | rfl | rfl
    · exact kit_refT (by decide +kernel) k.t1
    · exact kit_refT (by decide +kernel) k.t2
    · exact kit_refT (by decide +kernel) k.t3
    · exact kit_refT (by decide +kernel) k.t4
    · exact kit_refT (by decide +kernel) k.t5
  have ke : ∀ c, Γ.cok c = true → KlEq Γ (mkGc tab (cs.map (·.2)) kr ats) c := fun c e => by
    obtain ⟨r, er⟩ := kr_of c e
    have k := kf c r er
    refine ⟨fun g hg => ?_, k.nn, fun T hT => ?_, fun d' hd => ?_⟩
    · obtain ⟨_, t, h1, h2, h3⟩ := findW_get (show findW (.eqm c) "__eq__" 0 tab = some g from hg)
      rw [Nat.sub_zero] at h1
      have dk := (adr_ok _ t h1).wh
      rw [h2, h3] at dk
      obtain ⟨C, q1, q2, q3⟩ := dk
      rw [← ca_of c C q1] at q2
      exact ⟨q2, q3⟩
    · simp only [List.mem_cons, List.not_mem_nil, or_false] at hT
      rcases hT with rfl | rfl | rfl | rfl | rfl | rfl
      · exact nf_of k.u0
      · exact nf_of k.u1
      · exact nf_of k.u2
      · exact nf_of k.u3
      · exact nf_of k.u4
      · exact nf_of k.u5
    · obtain ⟨r', er'⟩ := kr_of d' hd
      obtain ⟨C, h1, _⟩ := hK.get er
      obtain ⟨E, h2, _⟩ := hK.get er'
      rw [ca_of c C h1, ca_of d' E h2]
      have z := hO c d' C E h1 h2
      unfold PySem.W.kitOne at z
      unfold PySem.W.notFirst
      split at z
      · rename_i q
        rw [show (Value.ref E == Value.ref C) = true from q]
        rfl
      · by_cases hdc : d' = c
        · subst hdc
          rw [h1] at h2
          cases Option.some.inj h2
          simp
        · rw [show (d' == c) = false from beq_eq_false_iff_ne.mpr hdc] at z
          unfold PySem.W.kitCls at z
          dsimp only at z
          split at z
          · rw [z]
            simp
          · cases z
  have kl : Kl Γ (mkGc tab (cs.map (·.2)) kr ats) (mkDc tab cs kr ats).ats := by
    refine ⟨fun c x f i e1 e2 => ?_, fun c x f g e1 e2 => ?_⟩
    · have e2 : atF tab kr ats c f = some (.inl i) := e2
      unfold atF at e2
      split at e2
      · rename_i r er
        have k := kf c r er
        obtain ⟨_, e3⟩ := numb_get (show (numb 0 ats).lookup x = some f from e1)
        rw [Nat.sub_zero] at e3
        rw [e3] at e2
        dsimp only at e2
        split at e2
        · rename_i j hj
          cases Option.some.inj e2
          exact ⟨k.cls, k.sl.get hj⟩
        · split at e2
          · cases Option.some.inj e2
          · cases e2
      · cases e2
    · have e2 : atF tab kr ats c f = some (.inr g) := e2
      unfold atF at e2
      split at e2
      · rename_i r er
        have k := kf c r er
        obtain ⟨_, e3⟩ := numb_get (show (numb 0 ats).lookup x = some f from e1)
        rw [Nat.sub_zero] at e3
        rw [e3] at e2
        dsimp only at e2
        split at e2
        · cases Option.some.inj e2
        · split at e2
          · rename_i g' hg
            cases Option.some.inj e2
            obtain ⟨_, t, h1, h2, h3⟩ := findW_get hg
            rw [Nat.sub_zero] at h1
            have dk := (adr_ok _ t h1).wh
            rw [h2, h3] at dk
            obtain ⟨C, p, rest, q1, q2, q3, q4, q5⟩ := dk
            rw [← ca_of c C q1] at q2
            exact ⟨k.cls, p, rest, q2, q3, q4, q5⟩
          · cases e2
      · cases e2
  have km : ∀ x c, (mkDc tab cs kr ats).cls.lookup x = some c → Γ.mg x = some (.ref (Γ.ca c)) ∧ PySem.W.keepIn Γ.K (.ref (Γ.ca c)) = true ∧ KlMk Γ (mkGc tab (cs.map (·.2)) kr ats) c ∧ KlIs Γ c := fun x c e => by
    obtain ⟨_, e3⟩ := numb_get (show (numb 0 (kr.map (·.x))).lookup x = some c from e)
    rw [Nat.sub_zero, List.getElem?_map] at e3
    cases er : kr[c]? with
    | none => rw [er] at e3; cases e3
    | some r =>
      rw [er] at e3
      cases Option.some.inj e3
      have k := kf c r er
      have hlt := (List.getElem?_eq_some_iff.mp er).1
      refine ⟨PySem.W.mg_of X G0 k.ns, k.kp, ⟨fun f m hi => ?_, decide_eq_true hlt⟩, ⟨fun T hT => ?_, fun d' hd => ?_⟩⟩
      · have hi : iniF tab kr c = some (f, m) := hi
        unfold iniF at hi
        rw [er] at hi
        dsimp only at hi
        split at hi
        · rename_i g hg
          cases Option.some.inj hi
          obtain ⟨_, t, h1, h2, h3⟩ := findW_get hg
          rw [Nat.sub_zero] at h1
          have dk := (adr_ok _ t h1).wh
          rw [h2] at dk
          obtain ⟨C, q1, q2⟩ := dk
          rw [← ca_of c C q1] at q2
          exact q2
        · cases hi
      · simp only [List.mem_cons, List.not_mem_nil, or_false] at hT
        rcases hT with rfl | rfl | rfl | rfl | rfl | rfl
        · exact kit_tref rfl k.cls.ic k.ty k.u0
        · exact kit_tref rfl k.cls.ic k.ty k.u1
        · exact kit_tref rfl k.cls.ic k.ty k.u2
        · exact kit_tref rfl k.cls.ic k.ty k.u3
        · exact kit_tref rfl k.cls.ic k.ty k.u4
        · exact kit_tref rfl k.cls.ic k.ty k.u5
      · obtain ⟨r', er'⟩ := kr_of d' hd
        obtain ⟨C, h1, _⟩ := hK.get er
        obtain ⟨E, h2, _⟩ := hK.get er'
        rw [ca_of c C h1, ca_of d' E h2]
        exact hO c d' C E h1 h2
  have T : Tb Γ (mkGc tab (cs.map (·.2)) kr ats) (mkDc tab cs kr ats) (mkF (tab.map (·.d))) := by
    refine ⟨fun x f e => ?_, fun x g e => ?_, fun x hx => ?_, own, fun f d e => ?_, kl, ke, km, fun f e => ?_⟩
    · obtain ⟨_, t, ht, hw, rfl⟩ := fnsOf_get (show (fnsOf 0 tab).lookup x = some f from e)
      rw [Nat.sub_zero] at ht
      have dk := (adr_ok f t ht).wh
      rw [hw] at dk
      exact PySem.W.mg_of X G0 dk
    · rcases lookup_app e with e | e
      · obtain ⟨_, e2⟩ := numb_get e
        rw [Nat.sub_zero, List.getElem?_map] at e2
        cases ht : cs[g]? with
        | none => rw [ht] at e2; cases e2
        | some t =>
          rw [ht] at e2
          cases Option.some.inj e2
          obtain ⟨u, w', h1, h2, h3⟩ := AllV.get (x := t.1) (v := t.2) hC ht
          refine ⟨t.2, u, w', ?_, PySem.W.mg_of X G0 h1, h2, fun L m H => h3 Γ L m H rfl⟩
          show gvF tab.length (cs.map (·.2)) g = _
          unfold gvF
          rw [List.getElem?_map, ht]
          rfl
      · obtain ⟨e1, e2⟩ := shift_get e
        obtain ⟨_, t, ht, hw, rfl⟩ := fnsOf_get e2
        rw [Nat.sub_zero] at ht
        have hl := (List.getElem?_eq_some_iff.mp ht).1
        have dk := (adr_ok _ t ht).wh
        rw [hw] at dk
        refine ⟨.fn (g - cs.length), .ref (adr (g - cs.length)), .ref (adr (g - cs.length)), ?_, PySem.W.mg_of X G0 dk, rfl, fun L m H => rfl⟩
        show gvF tab.length (cs.map (·.2)) g = _
        unfold gvF
        rw [List.getElem?_eq_none (by rw [List.length_map]; exact e1), List.length_map, decide_eq_true (by omega)]
    · exact PySem.W.mg_none_of X G0 (hN.mem hx)
    · have e : (tab.map (·.d))[f]? = some d := e
      rw [List.getElem?_map] at e
      cases ht : tab[f]? with
      | none => rw [ht] at e; cases e
      | some t =>
        rw [ht] at e
        cases Option.some.inj e
        obtain ⟨N', ps, S'⟩ := hDS f t ht
        obtain ⟨fd', F'⟩ := (adr_ok f t ht).fn
        exact ⟨t.x, t.q, t.st, fd', N', ps, F', S'.sc, F'.binds S'.bd, S'.ar, S'.sl, S'.ck⟩
    · have e : (tab.map (·.d))[f]? = none := e
      rw [List.getElem?_map] at e
      cases ht : tab[f]? with
      | some t => rw [ht] at e; cases e
      | none =>
        obtain ⟨fd', F'⟩ := (adr_no f ht).fn
        exact ⟨F'.kp, fd', ["script"], F'.binds S.bd⟩
  rw [efa]
  have hf : mkF (tab.map (·.d)) lf = some d := by
    show (tab.map (·.d))[lf]? = _
    rw [List.getElem?_map, hL]
    rfl
  refine FnOk.imp (fnS (Γ := Γ) (lvI T n) hf F S.sc S.ar S.sl S.ck) fun vs H Q E z => ?_
  obtain ⟨a, ns, rfl, hl, ho, hs, q⟩ := z
  obtain ⟨h', e⟩ := hlaw ns hl
  refine ⟨[], [], [], [.scr (ns.map .int)], ⟨rfl, .nil, fun _ z => (by cases z), fun i a o e => (by simp at e), fun _ z => (by cases z)⟩, ⟨⟨a, ns.map V.int, rfl, ?_, ints_map⟩, trivial⟩, ?_⟩
  · rcases hs with (hs | ⟨o, hs⟩) | hs
    · rcases ho a with z | ⟨o, xs, z⟩
      · rw [hs] at z; cases z
      · rw [hs] at z; cases z
    · exact .inl ⟨o, hs⟩
    · obtain ⟨o, its, n, h1, h2, h3, h4, h5, h6⟩ := hs
      exact .inr ⟨o, its, n, h1, h2, h3, h4, h5, h6⟩
  · rw [e]
    intro m' H' u _ _ r
    cases (show u = .bl true from r)
    exact q H'
end Mi
set_option Elab.async false
set_option linter.all false
namespace Gf
theorem tb_head {w : Nat} (h : w ≠ 0) : w.testBit w.log2 = true := by
  have h1 := Nat.log2_self_le h
  have h2 : w < 2 ^ (w.log2 + 1) := Nat.lt_log2_self
  rw [Nat.testBit_eq_decide_div_mod_eq]
  have h3 : w / 2 ^ w.log2 = 1 := by
    apply Nat.div_eq_of_lt_le
    · rw [Nat.one_mul]; exact h1
    · rw [show (1 + 1) * 2 ^ w.log2 = 2 ^ (w.log2 + 1) by rw [Nat.pow_succ]; omega]; exact h2
  rw [h3]
  rfl
theorem tb_le {w i : Nat} (h : w.testBit i = true) : i ≤ w.log2 := by
  have h1 := Nat.ge_two_pow_of_testBit h
  have h0 : w ≠ 0 := by
    intro z
    subst z
    simp at h
  exact (Nat.le_log2 h0).mpr h1
theorem eq_zero_of {w : Nat} (h : ∀ i, w.testBit i = false) : w = 0 := by
  apply Nat.eq_of_testBit_eq
  intro i
  rw [h i, Nat.zero_testBit]
theorem xor_eq_zero {a b : Nat} (h : a ^^^ b = 0) : a = b := by
  apply Nat.eq_of_testBit_eq
  intro i
  have : (a ^^^ b).testBit i = false := by rw [h, Nat.zero_testBit]
  rw [Nat.testBit_xor] at this
  cases ha : a.testBit i <;> cases hb : b.testBit i <;> rw [ha, hb] at this <;> first | rfl | cases this
theorem xor_cancel (a b : Nat) : (a ^^^ b) ^^^ b = a := by rw [Nat.xor_assoc, Nat.xor_self, Nat.xor_zero]
def Sp : List Nat → Nat → Prop
  | [], v => v = 0
  | w :: r, v => Sp r v ∨ Sp r (v ^^^ w)
theorem sp_zero : ∀ ws, Sp ws 0
  | [] => rfl
  | _ :: r => .inl (sp_zero r)
theorem sp_xor : ∀ {ws : List Nat} {a b : Nat}, Sp ws a → Sp ws b → Sp ws (a ^^^ b)
  | [], a, b, h, g => by
    cases (show a = 0 from h)
    cases (show b = 0 from g)
    rfl
  | w :: r, a, b, h, g => by
    rcases h with h | h <;> rcases g with g | g
    · exact .inl (sp_xor h g)
    · right
      have := sp_xor h g
      rwa [← Nat.xor_assoc] at this
    · right
      have := sp_xor h g
      rwa [Nat.xor_assoc, Nat.xor_comm w b, ← Nat.xor_assoc] at this
    · left
      have := sp_xor h g
      rwa [Nat.xor_assoc, ← Nat.xor_assoc w b w, Nat.xor_comm w b, Nat.xor_assoc b w w, Nat.xor_self, Nat.xor_zero] at this
theorem sp_mem : ∀ {ws : List Nat} {w : Nat}, w ∈ ws → Sp ws w
  | v :: r, w, h => by
    rcases List.mem_cons.mp h with rfl | h
    · right
      rw [Nat.xor_self]
      exact sp_zero r
    · exact .inl (sp_mem h)
theorem sp_sub : ∀ {ws us : List Nat} {v : Nat}, (∀ w ∈ ws, Sp us w) → Sp ws v → Sp us v
  | [], us, v, _, h => by
    cases (show v = 0 from h)
    exact sp_zero us
  | w :: r, us, v, g, h => by
    rcases h with h | h
    · exact sp_sub (fun x hx => g x (List.mem_cons_of_mem _ hx)) h
    · have := sp_xor (sp_sub (fun x hx => g x (List.mem_cons_of_mem _ hx)) h) (g w List.mem_cons_self)
      rwa [xor_cancel] at this
def Same (ws us : List Nat) : Prop := ∀ v, Sp ws v ↔ Sp us v
theorem same_of {ws us : List Nat} (h : ∀ w ∈ ws, Sp us w) (g : ∀ u ∈ us, Sp ws u) : Same ws us := fun _ => ⟨sp_sub h, sp_sub g⟩
theorem Same.refl (ws : List Nat) : Same ws ws := fun _ => Iff.rfl
theorem Same.symm {ws us : List Nat} (h : Same ws us) : Same us ws := fun v => (h v).symm
theorem Same.trans {ws us vs : List Nat} (h : Same ws us) (g : Same us vs) : Same ws vs := fun v => (h v).trans (g v)
theorem Same.cons {ws us : List Nat} (h : Same ws us) (w : Nat) : Same (w :: ws) (w :: us) := fun v => or_congr (h v) (h _)
theorem sp_bit : ∀ {ws : List Nat} {p v : Nat}, (∀ w ∈ ws, w.testBit p = false) → Sp ws v → v.testBit p = false
  | [], p, v, _, h => by
    cases (show v = 0 from h)
    exact Nat.zero_testBit p
  | w :: r, p, v, g, h => by
    rcases h with h | h
    · exact sp_bit (fun x hx => g x (List.mem_cons_of_mem _ hx)) h
    · have := sp_bit (fun x hx => g x (List.mem_cons_of_mem _ hx)) h
      rw [Nat.testBit_xor, g w List.mem_cons_self] at this
      simpa using this
structure Red (bs : List Nat) : Prop where
  pos : ∀ b ∈ bs, b ≠ 0
  one : ∀ b ∈ bs, ∀ c ∈ bs, c.testBit b.log2 = true → c = b
  nd : bs.Nodup
theorem Red.tail {b : Nat} {bs : List Nat} (h : Red (b :: bs)) : Red bs :=
  ⟨fun c hc => h.pos c (List.mem_cons_of_mem _ hc), fun c hc d hd => h.one c (List.mem_cons_of_mem _ hc) d (List.mem_cons_of_mem _ hd), (List.nodup_cons.mp h.nd).2⟩
theorem Red.off {b : Nat} {bs : List Nat} (h : Red (b :: bs)) : ∀ c ∈ bs, c.testBit b.log2 = false := fun c hc => by
  cases e : c.testBit b.log2 with
  | false => rfl
  | true =>
    have := h.one b List.mem_cons_self c (List.mem_cons_of_mem _ hc) e
    rw [this] at hc
    exact absurd hc (List.nodup_cons.mp h.nd).1
theorem red_zero : ∀ {bs : List Nat} {v : Nat}, Red bs → Sp bs v → (∀ b ∈ bs, v.testBit b.log2 = false) → v = 0
  | [], _, _, h, _ => h
  | b :: r, v, R, h, g => by
    rcases h with h | h
    · exact red_zero R.tail h fun c hc => g c (List.mem_cons_of_mem _ hc)
    · have := sp_bit R.off h
      rw [Nat.testBit_xor, g b List.mem_cons_self, tb_head (R.pos b List.mem_cons_self)] at this
      cases this
theorem red_eq {bs : List Nat} {u v : Nat} (R : Red bs) (hu : Sp bs u) (hv : Sp bs v) (h : ∀ b ∈ bs, u.testBit b.log2 = v.testBit b.log2) : u = v := by
  apply xor_eq_zero
  refine red_zero R (sp_xor hu hv) fun b hb => ?_
  rw [Nat.testBit_xor, h b hb, Bool.xor_self]
theorem red_head : ∀ {bs : List Nat} {v : Nat}, Red bs → Sp bs v → v ≠ 0 → ∃ b ∈ bs, v.log2 = b.log2
  | [], _, _, h, n => absurd h n
  | b :: r, v, R, h, n => by
    rcases h with h | h
    · obtain ⟨c, hc, e⟩ := red_head R.tail h n
      exact ⟨c, List.mem_cons_of_mem _ hc, e⟩
    · by_cases z : v ^^^ b = 0
      · exact ⟨b, List.mem_cons_self, by rw [xor_eq_zero z]⟩
      · obtain ⟨c, hc, e⟩ := red_head R.tail h z
        have hb := tb_head (R.pos b List.mem_cons_self)
        have hvb := sp_bit R.off h
        have hv : v.testBit b.log2 = true := by
          rw [Nat.testBit_xor, hb] at hvb
          cases hh : v.testBit b.log2 with
          | true => rfl
          | false => rw [hh] at hvb; cases hvb
        -- the greater of b's head and c's head
        have hne : b.log2 ≠ c.log2 := fun z => by
          have := R.off c hc
          rw [z, tb_head (R.tail.pos c hc)] at this
          cases this
        have hcb : b.testBit c.log2 = false := by
          cases q : b.testBit c.log2 with
          | false => rfl
          | true =>
            have := R.one c (List.mem_cons_of_mem _ hc) b List.mem_cons_self q
            exact absurd (by rw [this]) hne
        by_cases hlt : b.log2 < c.log2
        · refine ⟨c, List.mem_cons_of_mem _ hc, ?_⟩
          have h1 : v.testBit c.log2 = true := by
            have := tb_head z
            rw [e, Nat.testBit_xor, hcb] at this
            simpa using this
          apply Nat.le_antisymm
          · apply Nat.not_lt.mp
            intro hl
            have t := tb_head n
            have t2 : (v ^^^ b).testBit v.log2 = true := by
              rw [Nat.testBit_xor, t]
              have : b.testBit v.log2 = false := by
                cases q : b.testBit v.log2 with
                | false => rfl
                | true => have := tb_le q; omega
              rw [this]
              rfl
            have := tb_le t2
            omega
          · exact tb_le h1
        · refine ⟨b, List.mem_cons_self, ?_⟩
          apply Nat.le_antisymm
          · apply Nat.not_lt.mp
            intro hl
            have t := tb_head n
            have t2 : (v ^^^ b).testBit v.log2 = true := by
              rw [Nat.testBit_xor, t]
              have : b.testBit v.log2 = false := by
                cases q : b.testBit v.log2 with
                | false => rfl
                | true => have := tb_le q; omega
              rw [this]
              rfl
            have := tb_le t2
            omega
          · exact tb_le hv
theorem red_mem {bs cs : List Nat} (R : Red bs) (S : Red cs) (e : Same bs cs) {b : Nat} (hb : b ∈ bs) : b ∈ cs := by
  have hs : Sp cs b := (e b).mp (sp_mem hb)
  obtain ⟨c, hc, el⟩ := red_head S hs (R.pos b hb)
  have : b = c := by
    refine red_eq S hs (sp_mem hc) fun d hd => ?_
    by_cases hdc : d = c
    · subst hdc
      rw [← el, tb_head (R.pos b hb), el, tb_head (S.pos d hd)]
    · have h1 : c.testBit d.log2 = false := by
        cases q : c.testBit d.log2 with
        | false => rfl
        | true => exact absurd (S.one d hd c hc q).symm hdc
      rw [h1]
      obtain ⟨b', hb', el'⟩ := red_head R ((e d).mpr (sp_mem hd)) (S.pos d hd)
      cases q : b.testBit d.log2 with
      | false => rfl
      | true =>
        rw [el'] at q
        have := R.one b' hb' b hb q
        subst this
        have : d.testBit c.log2 = true := by
          rw [← el, ← el']
          exact tb_head (S.pos d hd)
        exact absurd (S.one c hc d hd this) hdc
  rw [this]
  exact hc
theorem desc_eq : ∀ {bs cs : List Nat}, bs.Pairwise (· > ·) → cs.Pairwise (· > ·) → (∀ x, x ∈ bs ↔ x ∈ cs) → bs = cs
  | [], [], _, _, _ => rfl
  | [], c :: cs, _, _, h => absurd ((h c).mpr List.mem_cons_self) (by simp)
  | b :: bs, [], _, _, h => absurd ((h b).mp List.mem_cons_self) (by simp)
  | b :: bs, c :: cs, p, q, h => by
    have e : b = c := by
      rcases List.mem_cons.mp ((h b).mp List.mem_cons_self) with z | z
      · exact z
      · rcases List.mem_cons.mp ((h c).mpr List.mem_cons_self) with w | w
        · exact w.symm
        · have h1 := (List.pairwise_cons.mp q).1 b z
          have h2 := (List.pairwise_cons.mp p).1 c w
          omega
    subst e
    rw [desc_eq (List.pairwise_cons.mp p).2 (List.pairwise_cons.mp q).2 fun x => ?_]
    constructor
    · intro hx
      have := (List.pairwise_cons.mp p).1 x hx
      rcases List.mem_cons.mp ((h x).mp (List.mem_cons_of_mem _ hx)) with z | z
      · omega
      · exact z
    · intro hx
      have := (List.pairwise_cons.mp q).1 x hx
      rcases List.mem_cons.mp ((h x).mpr (List.mem_cons_of_mem _ hx)) with z | z
      · omega
      · exact z
theorem red_unique {bs cs : List Nat} (R : Red bs) (S : Red cs) (e : Same bs cs) (p : bs.Pairwise (· > ·)) (q : cs.Pairwise (· > ·)) : bs = cs :=
  desc_eq p q fun x => ⟨red_mem R S e, red_mem S R e.symm⟩
end Gf
set_option Elab.async false
set_option linter.all false
namespace Gf
theorem log2_of {x k : Nat} (h : x.testBit k = true) (g : ∀ i, k < i → x.testBit i = false) : x.log2 = k := by
  apply Nat.le_antisymm
  · apply Nat.not_lt.mp
    intro hl
    have n : x ≠ 0 := by
      intro z
      subst z
      simp at h
    have := tb_head n
    rw [g _ hl] at this
    cases this
  · exact tb_le h
theorem tb_above {x i : Nat} (h : x.log2 < i) : x.testBit i = false := by
  cases q : x.testBit i with
  | false => rfl
  | true => have := tb_le q; omega
def rem (bs : List Nat) (w : Nat) : Nat := bs.foldl (fun w b => if w.testBit b.log2 then w ^^^ b else w) w
theorem rem_cons (b : Nat) (bs : List Nat) (w : Nat) : rem (b :: bs) w = rem bs (if w.testBit b.log2 then w ^^^ b else w) := rfl
theorem rem_sp : ∀ (bs : List Nat) (w : Nat), Sp bs (rem bs w ^^^ w)
  | [], w => Nat.xor_self w
  | b :: r, w => by
    rw [rem_cons]
    have := rem_sp r (if w.testBit b.log2 then w ^^^ b else w)
    split at this
    · rename_i h
      rw [if_pos h]
      right
      rwa [Nat.xor_assoc]
    · rename_i h
      rw [if_neg h]
      exact .inl this
theorem rem_off {bs : List Nat} (R : Red bs) : ∀ {r : List Nat} (w : Nat), (∀ x ∈ r, x ∈ bs) → r.Nodup → ∀ b ∈ bs, (rem r w).testBit b.log2 = (if b ∈ r then false else w.testBit b.log2)
  | [], w, _, _, b, _ => by simp [rem]
  | c :: r, w, hs, nd, b, hb => by
    rw [rem_cons, rem_off R _ (fun x hx => hs x (List.mem_cons_of_mem _ hx)) (List.nodup_cons.mp nd).2 b hb]
    have hc := hs c List.mem_cons_self
    by_cases hbr : b ∈ r
    · rw [if_pos hbr, if_pos (List.mem_cons_of_mem _ hbr)]
    · rw [if_neg hbr]
      by_cases hbc : b = c
      · subst hbc
        rw [if_pos List.mem_cons_self]
        split
        · rename_i h
          rw [Nat.testBit_xor, h, tb_head (R.pos b hb)]
          rfl
        · rename_i h
          simpa using h
      · rw [if_neg (fun z => (List.mem_cons.mp z).elim hbc hbr)]
        have h1 : c.testBit b.log2 = false := by
          cases q : c.testBit b.log2 with
          | false => rfl
          | true => exact absurd (R.one b hb c hc q).symm hbc
        split
        · rw [Nat.testBit_xor, h1, Bool.xor_false]
        · rfl
theorem rem_head {bs : List Nat} (R : Red bs) (w : Nat) : ∀ b ∈ bs, (rem bs w).testBit b.log2 = false := fun b hb => by
  rw [rem_off R w (fun _ h => h) R.nd b hb, if_pos hb]
theorem rem_unique {bs : List Nat} (R : Red bs) {u v : Nat} (h : Sp bs (u ^^^ v)) : rem bs u = rem bs v := by
  apply xor_eq_zero
  refine red_zero R ?_ fun b hb => by rw [Nat.testBit_xor, rem_head R u b hb, rem_head R v b hb]; rfl
  have h1 := sp_xor (rem_sp bs u) (rem_sp bs v)
  have h2 := sp_xor h1 h
  have e : rem bs u ^^^ u ^^^ (rem bs v ^^^ v) ^^^ (u ^^^ v) = rem bs u ^^^ rem bs v := by
    apply Nat.eq_of_testBit_eq
    intro i
    simp only [Nat.testBit_xor]
    cases (rem bs u).testBit i <;> cases (rem bs v).testBit i <;> cases u.testBit i <;> cases v.testBit i <;> rfl
  rwa [e] at h2
theorem rem_zero {bs : List Nat} (R : Red bs) (w : Nat) : rem bs w = 0 ↔ Sp bs w := by
  constructor
  · intro h
    have := rem_sp bs w
    rwa [h, Nat.zero_xor] at this
  · intro h
    refine red_zero R ?_ (rem_head R w)
    have := sp_xor (rem_sp bs w) h
    rwa [xor_cancel] at this
def clr (r b : Nat) : Nat := if b.testBit r.log2 then b ^^^ r else b
def more (bs : List Nat) (r : Nat) : List Nat := bs.map (clr r) ++ [r]
section
variable {bs : List Nat} {r : Nat}
theorem clr_head (R : Red bs) (n : r ≠ 0) (h : ∀ b ∈ bs, r.testBit b.log2 = false) {b : Nat} (hb : b ∈ bs) : (clr r b).log2 = b.log2 := by
  unfold clr
  split
  · rename_i q
    have hlt : r.log2 < b.log2 := by
      have h1 := tb_le q
      have h2 : r.log2 ≠ b.log2 := fun z => by
        have := h b hb
        rw [← z, tb_head n] at this
        cases this
      omega
    refine log2_of ?_ fun i hi => ?_
    · rw [Nat.testBit_xor, tb_head (R.pos b hb), h b hb]
      rfl
    · rw [Nat.testBit_xor, tb_above hi, tb_above (by omega)]
      rfl
  · rfl
theorem clr_bit (h : ∀ b ∈ bs, r.testBit b.log2 = false) {b c : Nat} (hb : b ∈ bs) : (clr r c).testBit b.log2 = c.testBit b.log2 := by
  unfold clr
  split
  · rw [Nat.testBit_xor, h b hb, Bool.xor_false]
  · rfl
theorem clr_off (n : r ≠ 0) (c : Nat) : (clr r c).testBit r.log2 = false := by
  unfold clr
  split
  · rename_i q
    rw [Nat.testBit_xor, q, tb_head n]
    rfl
  · rename_i q
    simpa using q
theorem more_red (R : Red bs) (n : r ≠ 0) (h : ∀ b ∈ bs, r.testBit b.log2 = false) : Red (more bs r) := by
  have hd : ∀ x ∈ more bs r, (∃ b ∈ bs, x = clr r b ∧ x.log2 = b.log2) ∨ x = r := fun x hx => by
    rcases List.mem_append.mp hx with z | z
    · obtain ⟨b, hb, rfl⟩ := List.mem_map.mp z
      exact .inl ⟨b, hb, rfl, clr_head R n h hb⟩
    · exact .inr (List.mem_singleton.mp z)
  refine ⟨fun x hx => ?_, fun x hx y hy e => ?_, ?_⟩
  · rcases hd x hx with ⟨b, hb, rfl, el⟩ | rfl
    · intro z
      have := clr_bit h hb (c := b)
      rw [z, Nat.zero_testBit, tb_head (R.pos b hb)] at this
      cases this
    · exact n
  · rcases hd x hx with ⟨b, hb, rfl, el⟩ | rfl
    · rw [el] at e
      rcases hd y hy with ⟨c, hc, rfl, _⟩ | rfl
      · rw [clr_bit h hb] at e
        rw [R.one b hb c hc e]
      · rw [h b hb] at e
        cases e
    · rcases hd y hy with ⟨c, hc, rfl, _⟩ | rfl
      · rw [clr_off n] at e
        cases e
      · rfl
  · unfold more
    rw [List.nodup_append]
    refine ⟨?_, by simp, fun a ha b hb z => ?_⟩
    · rw [List.Nodup, List.pairwise_map]
      refine List.Pairwise.imp_of_mem ?_ R.nd
      intro a b ha hb hab z
      have : a.log2 = b.log2 := by rw [← clr_head R n h ha, ← clr_head R n h hb, z]
      have q := tb_head (R.pos b hb)
      rw [← this] at q
      exact hab (R.one a ha b hb q).symm
    · obtain ⟨c, hc, rfl⟩ := List.mem_map.mp ha
      rw [List.mem_singleton.mp hb] at z
      have q := clr_off n c
      rw [z, tb_head n] at q
      cases q
theorem more_same (w : Nat) (h : Sp bs (r ^^^ w)) : Same (more bs r) (w :: bs) := by
  have hw : Sp (w :: bs) w := sp_mem List.mem_cons_self
  have hr : Sp (w :: bs) r := by
    have := sp_xor (show Sp (w :: bs) (r ^^^ w) from .inl h) hw
    rwa [xor_cancel] at this
  have hb : ∀ b ∈ bs, Sp (w :: bs) b := fun b hb => sp_mem (List.mem_cons_of_mem _ hb)
  have mr : Sp (more bs r) r := sp_mem (List.mem_append_right _ (List.mem_singleton.mpr rfl))
  have mb : ∀ b ∈ bs, Sp (more bs r) b := fun b hb => by
    have hc : Sp (more bs r) (clr r b) := sp_mem (List.mem_append_left _ (List.mem_map.mpr ⟨b, hb, rfl⟩))
    unfold clr at hc
    split at hc
    · have := sp_xor hc mr
      rwa [xor_cancel] at this
    · exact hc
  refine same_of (fun x hx => ?_) fun x hx => ?_
  · rcases List.mem_append.mp hx with z | z
    · obtain ⟨b, hb', rfl⟩ := List.mem_map.mp z
      unfold clr
      split
      · exact sp_xor (hb b hb') hr
      · exact hb b hb'
    · rw [List.mem_singleton.mp z]
      exact hr
  · rcases List.mem_cons.mp hx with rfl | hx
    · have := sp_xor (sp_sub mb h) mr
      rwa [Nat.xor_comm r x, xor_cancel] at this
    · exact mb x hx
end
def insN (x : Nat) : List Nat → List Nat
  | [] => [x]
  | y :: r => if x ≤ y then x :: y :: r else y :: insN x r
def sortN : List Nat → List Nat
  | [] => []
  | x :: r => insN x (sortN r)
theorem insN_perm (x : Nat) : ∀ l : List Nat, (insN x l).Perm (x :: l)
  | [] => .refl _
  | y :: r => by
    unfold insN
    split
    · exact .refl _
    · exact ((insN_perm x r).cons y).trans (.swap x y r)
theorem insN_sorted (x : Nat) : ∀ {l : List Nat}, l.Pairwise (· ≤ ·) → (insN x l).Pairwise (· ≤ ·)
  | [], _ => by simp [insN]
  | y :: r, h => by
    unfold insN
    split
    · rename_i hx
      exact .cons (fun z hz => (List.mem_cons.mp hz).elim (fun q => by rw [q]; exact hx) fun q => Nat.le_trans hx ((List.pairwise_cons.mp h).1 z q)) h
    · rename_i hx
      refine .cons (fun z hz => ?_) (insN_sorted x (List.pairwise_cons.mp h).2)
      rcases List.mem_cons.mp ((insN_perm x r).mem_iff.mp hz) with q | q
      · rw [q]; omega
      · exact (List.pairwise_cons.mp h).1 z q
theorem sortN_perm : ∀ l : List Nat, (sortN l).Perm l
  | [] => .refl _
  | x :: r => (insN_perm x (sortN r)).trans ((sortN_perm r).cons x)
theorem sortN_sorted : ∀ l : List Nat, (sortN l).Pairwise (· ≤ ·)
  | [] => .nil
  | x :: r => insN_sorted x (sortN_sorted r)
def desc (l : List Nat) : List Nat := (sortN l).reverse
theorem desc_perm (l : List Nat) : (desc l).Perm l := (List.reverse_perm _).trans (sortN_perm l)
theorem desc_sorted {l : List Nat} (nd : l.Nodup) : (desc l).Pairwise (· > ·) := by
  unfold desc
  rw [List.pairwise_reverse]
  have h := sortN_sorted l
  have n : (sortN l).Nodup := (sortN_perm l).nodup_iff.mpr nd
  refine List.Pairwise.imp ?_ (h.and n)
  intro a b ⟨h1, h2⟩
  show a < b
  omega
theorem Red.perm {bs cs : List Nat} (R : Red bs) (p : cs.Perm bs) : Red cs :=
  ⟨fun b hb => R.pos b (p.mem_iff.mp hb), fun b hb c hc => R.one b (p.mem_iff.mp hb) c (p.mem_iff.mp hc), p.nodup_iff.mpr R.nd⟩
theorem same_perm {bs cs : List Nat} (p : cs.Perm bs) : Same cs bs := same_of (fun w hw => sp_mem (p.mem_iff.mp hw)) fun w hw => sp_mem (p.mem_iff.mpr hw)
def withW (bs : List Nat) (w : Nat) : List Nat := if rem bs w = 0 then bs else desc (more bs (rem bs w))
structure Bas (bs : List Nat) : Prop where
  red : Red bs
  ord : bs.Pairwise (· > ·)
theorem bas_nil : Bas [] := ⟨⟨fun _ h => (nomatch h), fun _ h => (nomatch h), List.nodup_nil⟩, List.Pairwise.nil⟩
theorem withW_bas {bs : List Nat} (B : Bas bs) (w : Nat) : Bas (withW bs w) ∧ Same (withW bs w) (w :: bs) := by
  unfold withW
  split
  · rename_i h
    refine ⟨B, same_of (fun x hx => sp_mem (List.mem_cons_of_mem _ hx)) fun x hx => ?_⟩
    rcases List.mem_cons.mp hx with rfl | hx
    · exact (rem_zero B.red x).mp h
    · exact sp_mem hx
  · rename_i h
    have M := more_red B.red h (rem_head B.red w)
    exact ⟨⟨M.perm (desc_perm _), desc_sorted M.nd⟩, (same_perm (desc_perm _)).trans (more_same w (rem_sp bs w))⟩
def basisF (bs ws : List Nat) : List Nat := ws.foldl withW bs
theorem basisF_ok : ∀ (ws : List Nat) {bs : List Nat}, Bas bs → Bas (basisF bs ws) ∧ Same (basisF bs ws) (ws ++ bs)
  | [], bs, B => ⟨B, Same.refl bs⟩
  | w :: ws, bs, B => by
    obtain ⟨B1, S1⟩ := withW_bas B w
    obtain ⟨B2, S2⟩ := basisF_ok ws B1
    refine ⟨B2, S2.trans (same_of (fun x hx => ?_) fun x hx => ?_)⟩
    · rcases List.mem_append.mp hx with z | z
      · exact sp_mem (List.mem_append_left _ (List.mem_cons_of_mem _ z))
      · refine sp_sub (fun y hy => ?_) ((S1 x).mp (sp_mem z))
        rcases List.mem_cons.mp hy with rfl | hy
        · exact sp_mem (List.mem_append_left _ List.mem_cons_self)
        · exact sp_mem (List.mem_append_right _ hy)
    · have inn : ∀ y, Sp (w :: bs) y → Sp (ws ++ withW bs w) y := fun y hy => sp_sub (fun z hz => sp_mem (List.mem_append_right _ hz)) ((S1 y).mpr hy)
      rcases List.mem_append.mp hx with z | z
      · rcases List.mem_cons.mp z with rfl | z
        · exact inn _ (sp_mem List.mem_cons_self)
        · exact sp_mem (List.mem_append_left _ z)
      · exact inn _ (sp_mem (List.mem_cons_of_mem _ z))
def basis (ws : List Nat) : List Nat := basisF [] ws
theorem basis_bas (ws : List Nat) : Bas (basis ws) := (basisF_ok ws bas_nil).1
theorem basis_same (ws : List Nat) : Same (basis ws) ws := by
  have := (basisF_ok ws bas_nil).2
  rwa [List.append_nil] at this
theorem basis_eq {bs ws : List Nat} (B : Bas bs) (S : Same bs ws) : bs = basis ws := red_unique B.red (basis_bas ws).red (S.trans (basis_same ws).symm) B.ord (basis_bas ws).ord
theorem basis_congr {ws us : List Nat} (S : Same ws us) : basis ws = basis us := basis_eq (basis_bas ws) ((basis_same ws).trans S)
theorem sp_lt {ws : List Nat} {v k : Nat} (h : ∀ w ∈ ws, w < 2 ^ k) (g : Sp ws v) : v < 2 ^ k := by
  apply Nat.lt_pow_two_of_testBit
  intro i hi
  refine sp_bit (fun w hw => ?_) g
  exact Nat.testBit_lt_two_pow (Nat.lt_of_lt_of_le (h w hw) (Nat.pow_le_pow_right (by decide) hi))
theorem desc_len : ∀ {bs : List Nat} {m : Nat}, bs.Pairwise (· > ·) → (∀ b ∈ bs, 0 < b ∧ b < m) → bs.length + 1 ≤ m ∨ bs = []
  | [], _, _, _ => .inr rfl
  | b :: bs, m, p, h => by
    left
    obtain ⟨h1, h2⟩ := h b List.mem_cons_self
    rcases desc_len (m := b) (List.pairwise_cons.mp p).2 (fun c hc => ⟨(h c (List.mem_cons_of_mem _ hc)).1, (List.pairwise_cons.mp p).1 c hc⟩) with z | z
    · rw [List.length_cons]; omega
    · subst z
      simp
      omega
structure BasN (k : Nat) (bs : List Nat) : Prop where
  bas : Bas bs
  lt : ∀ b ∈ bs, b < 2 ^ k
theorem BasN.len {k : Nat} {bs : List Nat} (B : BasN k bs) : bs.length + 1 ≤ 2 ^ k := by
  rcases desc_len (m := 2 ^ k) B.bas.ord (fun b hb => ⟨Nat.pos_of_ne_zero (B.bas.red.pos b hb), B.lt b hb⟩) with z | z
  · exact z
  · subst z
    exact Nat.one_le_two_pow
theorem BasN.more {k : Nat} {bs : List Nat} (B : BasN k bs) {w : Nat} (hw : w < 2 ^ k) : BasN k (withW bs w) := by
  obtain ⟨B1, S1⟩ := withW_bas B.bas w
  refine ⟨B1, fun b hb => sp_lt (ws := w :: bs) (fun x hx => ?_) ((S1 b).mp (sp_mem hb))⟩
  rcases List.mem_cons.mp hx with rfl | hx
  · exact hw
  · exact B.lt x hx
theorem basN_nil (k : Nat) : BasN k [] := ⟨bas_nil, fun _ h => (nomatch h)⟩
theorem basN (k : Nat) {ws : List Nat} (h : ∀ w ∈ ws, w < 2 ^ k) : BasN k (basis ws) := ⟨basis_bas ws, fun b hb => sp_lt h ((basis_same ws b).mp (sp_mem hb))⟩
end Gf
set_option Elab.async false
set_option linter.all false
namespace Gf
theorem and_nib {x a : Nat} (hx : x < 16) (ha : a < 16) (y b : Nat) : (x + 16 * y) &&& (a + 16 * b) = (x &&& a) + 16 * (y &&& b) := by
  have hxa : x &&& a < 16 := Nat.and_lt_two_pow (n := 4) x (by omega)
  have e : ∀ (u v : Nat), u < 16 → ∀ i, (u + 16 * v).testBit i = if i < 4 then u.testBit i else v.testBit (i - 4) := fun u v hu i => by
    rw [show u + 16 * v = 2 ^ 4 * v + u by omega]
    rw [Nat.testBit_two_pow_mul_add v (show u < 2 ^ 4 by omega)]
  apply Nat.eq_of_testBit_eq
  intro i
  rw [Nat.testBit_and, e x y hx, e a b ha, e _ _ hxa]
  split
  · rw [Nat.testBit_and]
  · rw [Nat.testBit_and]
def nib1 (n : Nat) : Nat := n - ((n / 2) &&& 5)
def nib2 (n : Nat) : Nat := (n &&& 3) + ((n / 4) &&& 3)
def stp1 (M w : Nat) : Nat := w - ((w / 2) &&& M)
def stp2 (M w : Nat) : Nat := (w &&& M) + ((w / 4) &&& M)
theorem stp1_nib {x : Nat} (hx : x < 16) (y M : Nat) : stp1 (5 + 16 * M) (x + 16 * y) = nib1 x + 16 * stp1 M y := by
  unfold stp1 nib1
  have e : (x + 16 * y) / 2 = (x / 2 + 8 * (y % 2)) + 16 * (y / 2) := by omega
  have hlo : x / 2 + 8 * (y % 2) < 16 := by omega
  rw [e, and_nib hlo (by omega)]
  have h5 : (x / 2 + 8 * (y % 2)) &&& 5 = (x / 2) &&& 5 := by
    have hx2 : x / 2 < 8 := by omega
    have hy : y % 2 = 0 ∨ y % 2 = 1 := by omega
    generalize x / 2 = u at hx2
    have : ∀ u, u < 8 → ((u + 8 * 0) &&& 5 = u &&& 5) ∧ ((u + 8 * 1) &&& 5 = u &&& 5) := by decide
    rcases hy with z | z <;> rw [z]
    · exact (this u hx2).1
    · exact (this u hx2).2
  rw [h5]
  have h1 : (x / 2) &&& 5 ≤ x := Nat.le_trans Nat.and_le_left (Nat.div_le_self _ _)
  have h2 : (y / 2) &&& M ≤ y := Nat.le_trans Nat.and_le_left (Nat.div_le_self _ _)
  omega
theorem stp2_nib {x : Nat} (hx : x < 16) (y M : Nat) : stp2 (3 + 16 * M) (x + 16 * y) = nib2 x + 16 * stp2 M y := by
  unfold stp2 nib2
  have e : (x + 16 * y) / 4 = (x / 4 + 4 * (y % 4)) + 16 * (y / 4) := by omega
  have hlo : x / 4 + 4 * (y % 4) < 16 := by omega
  rw [e, and_nib hlo (by omega), and_nib hx (by omega)]
  have h5 : (x / 4 + 4 * (y % 4)) &&& 3 = (x / 4) &&& 3 := by
    have hx2 : x / 4 < 4 := by omega
    have hy : y % 4 < 4 := by omega
    generalize x / 4 = u at hx2
    generalize y % 4 = v at hy
    have : ∀ u, u < 4 → ∀ v, v < 4 → ((u + 4 * v) &&& 3 = u &&& 3) := by decide
    exact this u hx2 v hy
  rw [h5]
  omega
def ones : Nat → Nat → Nat
  | 0, _ => 0
  | k + 1, w => w % 2 + ones k (w / 2)
theorem ones_nib {x : Nat} (hx : x < 16) (k y : Nat) : ones (k + 4) (x + 16 * y) = ones 4 x + ones k y := by
  show (x + 16 * y) % 2 + ((x + 16 * y) / 2 % 2 + ((x + 16 * y) / 2 / 2 % 2 + ((x + 16 * y) / 2 / 2 / 2 % 2 + ones k ((x + 16 * y) / 2 / 2 / 2 / 2)))) = (x % 2 + (x / 2 % 2 + (x / 2 / 2 % 2 + (x / 2 / 2 / 2 % 2 + 0)))) + ones k y
  rw [show (x + 16 * y) / 2 / 2 / 2 / 2 = y by omega]
  omega
theorem nib_ones : ∀ n, n < 16 → nib1 n < 16 ∧ nib2 (nib1 n) = ones 4 n ∧ ones 4 n ≤ 4 := by decide
theorem fold_nib {c : Nat} (hc : c < 16) (y M : Nat) : (c + 16 * y) &&& (15 + 16 * M) = c + 16 * (y &&& M) := by
  rw [and_nib hc (by omega)]
  have : ∀ c, c < 16 → c &&& 15 = c := by decide
  rw [this c hc]
theorem skip_nib {c : Nat} (hc : c < 16) (y M : Nat) : (c + 16 * y) &&& (0 + 16 * M) = 16 * (y &&& M) := by
  rw [and_nib hc (by omega), Nat.and_zero, Nat.zero_add]
theorem trick (w : Nat) (hw : w < 2 ^ 24) : ((stp2 3355443 (stp1 5592405 w) + stp2 3355443 (stp1 5592405 w) / 16) &&& 986895) % 255 = ones 24 w := by
  obtain ⟨a, ha, w1, e1⟩ : ∃ a, a < 16 ∧ ∃ w1, w = a + 16 * w1 := ⟨w % 16, by omega, w / 16, by omega⟩
  obtain ⟨b, hb, w2, e2⟩ : ∃ a, a < 16 ∧ ∃ w2, w1 = a + 16 * w2 := ⟨w1 % 16, by omega, w1 / 16, by omega⟩
  obtain ⟨c, hc, w3, e3⟩ : ∃ a, a < 16 ∧ ∃ w3, w2 = a + 16 * w3 := ⟨w2 % 16, by omega, w2 / 16, by omega⟩
  obtain ⟨d, hd, w4, e4⟩ : ∃ a, a < 16 ∧ ∃ w4, w3 = a + 16 * w4 := ⟨w3 % 16, by omega, w3 / 16, by omega⟩
  obtain ⟨e, he, w5, e5⟩ : ∃ a, a < 16 ∧ ∃ w5, w4 = a + 16 * w5 := ⟨w4 % 16, by omega, w4 / 16, by omega⟩
  have hf : w5 < 16 := by
    have : (2 : Nat) ^ 24 = 16777216 := by decide
    omega
  obtain ⟨pa, qa, la⟩ := nib_ones a ha
  obtain ⟨pb, qb, lb⟩ := nib_ones b hb
  obtain ⟨pc, qc, lc⟩ := nib_ones c hc
  obtain ⟨pd, qd, ld⟩ := nib_ones d hd
  obtain ⟨pe, qe, le⟩ := nib_ones e he
  obtain ⟨pf, qf, lf⟩ := nib_ones w5 hf
  have s1 : stp1 5592405 w = nib1 a + 16 * (nib1 b + 16 * (nib1 c + 16 * (nib1 d + 16 * (nib1 e + 16 * nib1 w5)))) := by
    subst e1 e2 e3 e4 e5
    rw [show 5592405 = 5 + 16 * 349525 by rfl, stp1_nib ha, show 349525 = 5 + 16 * 21845 by rfl, stp1_nib hb, show 21845 = 5 + 16 * 1365 by rfl, stp1_nib hc, show 1365 = 5 + 16 * 85 by rfl, stp1_nib hd, show 85 = 5 + 16 * 5 by rfl, stp1_nib he]
    rfl
  have s2 : stp2 3355443 (stp1 5592405 w) = ones 4 a + 16 * (ones 4 b + 16 * (ones 4 c + 16 * (ones 4 d + 16 * (ones 4 e + 16 * ones 4 w5)))) := by
    rw [s1, show 3355443 = 3 + 16 * 209715 by rfl, stp2_nib pa, show 209715 = 3 + 16 * 13107 by rfl, stp2_nib pb, show 13107 = 3 + 16 * 819 by rfl, stp2_nib pc, show 819 = 3 + 16 * 51 by rfl, stp2_nib pd, show 51 = 3 + 16 * 3 by rfl, stp2_nib pe]
    rw [qa, qb, qc, qd, qe, show stp2 3 (nib1 w5) = nib2 (nib1 w5) from rfl, qf]
  have o : ones 24 w = ones 4 a + (ones 4 b + (ones 4 c + (ones 4 d + (ones 4 e + ones 4 w5)))) := by
    subst e1 e2 e3 e4 e5
    rw [ones_nib (k := 20) ha, ones_nib (k := 16) hb, ones_nib (k := 12) hc, ones_nib (k := 8) hd, ones_nib (k := 4) he]
  rw [s2, o]
  generalize ones 4 a = A at *
  generalize ones 4 b = B at *
  generalize ones 4 c = C at *
  generalize ones 4 d = E at *
  generalize ones 4 e = F at *
  generalize ones 4 w5 = G at *
  have t : (A + 16 * (B + 16 * (C + 16 * (E + 16 * (F + 16 * G))))) + (A + 16 * (B + 16 * (C + 16 * (E + 16 * (F + 16 * G))))) / 16 = (A + B) + 16 * ((B + C) + 16 * ((C + E) + 16 * ((E + F) + 16 * ((F + G) + 16 * (G + 16 * 0))))) := by omega
  rw [t, show 986895 = 15 + 16 * (0 + 16 * (15 + 16 * (0 + 16 * (15 + 16 * (0 + 16 * 0))))) by rfl, fold_nib (by omega), skip_nib (by omega), fold_nib (by omega), skip_nib (by omega), fold_nib (by omega), skip_nib (by omega)]
  have z : (0 : Nat) &&& 0 = 0 := rfl
  rw [z]
  omega
end Gf
set_option Elab.async false
set_option linter.all false
namespace Gf
theorem half_xor (a b : Nat) : (a ^^^ b) / 2 = (a / 2) ^^^ (b / 2) := by
  apply Nat.eq_of_testBit_eq
  intro i
  simp only [Nat.testBit_div_two, Nat.testBit_xor]
theorem half_and (a b : Nat) : (a &&& b) / 2 = (a / 2) &&& (b / 2) := by
  apply Nat.eq_of_testBit_eq
  intro i
  simp only [Nat.testBit_div_two, Nat.testBit_and]
theorem low_bit (a : Nat) : a % 2 = if a.testBit 0 then 1 else 0 := by
  rw [Nat.testBit_zero]
  rcases Nat.mod_two_eq_zero_or_one a with h | h <;> simp [h]
theorem ones_sum : ∀ (k a b : Nat), ones k (a ^^^ b) + 2 * ones k (a &&& b) = ones k a + ones k b
  | 0, _, _ => rfl
  | k + 1, a, b => by
    have ih := ones_sum k (a / 2) (b / 2)
    show (a ^^^ b) % 2 + ones k ((a ^^^ b) / 2) + 2 * ((a &&& b) % 2 + ones k ((a &&& b) / 2)) = a % 2 + ones k (a / 2) + (b % 2 + ones k (b / 2))
    rw [half_xor, half_and]
    have e : (a ^^^ b) % 2 + 2 * ((a &&& b) % 2) = a % 2 + b % 2 := by
      rw [low_bit (a ^^^ b), low_bit (a &&& b), low_bit a, low_bit b, Nat.testBit_xor, Nat.testBit_and]
      cases a.testBit 0 <;> cases b.testBit 0 <;> rfl
    omega
theorem places_sum (w : Nat) : ∀ k, (((List.range k).filter fun p => w.testBit p).map (2 ^ ·)).sum = w % 2 ^ k
  | 0 => by simp [Nat.mod_one]
  | k + 1 => by
    rw [List.range_succ, List.filter_append, List.map_append, List.sum_append, places_sum w k, Nat.mod_pow_succ]
    have e := Nat.testBit_eq_decide_div_mod_eq (x := w) (i := k)
    cases h : w.testBit k with
    | true =>
      rw [h] at e
      have : w / 2 ^ k % 2 = 1 := of_decide_eq_true e.symm
      rw [this]
      simp [h]
    | false =>
      rw [h] at e
      have h1 : ¬ w / 2 ^ k % 2 = 1 := of_decide_eq_false e.symm
      have : w / 2 ^ k % 2 = 0 := by omega
      rw [this]
      simp [h]
theorem lt_of_tb {x y : Nat} (p : Nat) (hx : x.testBit p = false) (hy : y.testBit p = true) (h : ∀ j, p < j → x.testBit j = y.testBit j) : x < y := by
  have e : x / 2 ^ (p + 1) = y / 2 ^ (p + 1) := Nat.eq_of_testBit_eq fun i => by
    rw [Nat.testBit_div_two_pow, Nat.testBit_div_two_pow]
    exact h _ (by omega)
  rw [Nat.pow_succ, ← Nat.div_div_eq_div_mul, ← Nat.div_div_eq_div_mul] at e
  rw [Nat.testBit_eq_decide_div_mod_eq] at hx hy
  have h1 : ¬ x / 2 ^ p % 2 = 1 := of_decide_eq_false hx
  have h2 : y / 2 ^ p % 2 = 1 := of_decide_eq_true hy
  apply Nat.lt_of_not_le
  intro hle
  have := Nat.div_le_div_right (c := 2 ^ p) hle
  omega
def spanL (bs acc : List Nat) : List Nat := bs.foldl (fun acc w => acc ++ acc.map (· ^^^ w)) acc
theorem spanL_cons (b : Nat) (bs acc : List Nat) : spanL (b :: bs) acc = spanL bs (acc ++ acc.map (· ^^^ b)) := rfl
theorem spanL_perm : ∀ {bs cs : List Nat}, bs.Perm cs → ∀ {as as' : List Nat}, as.Perm as' → (spanL bs as).Perm (spanL cs as') := by
  intro bs cs p
  induction p with
  | nil => intro as as' q; exact q
  | cons x _ ih => intro as as' q; exact ih (q.append (q.map _))
  | swap x y l =>
    intro as as' q
    have base : ∀ {u v : List Nat}, u.Perm v → (spanL l u).Perm (spanL l v) := by
      induction l with
      | nil => intro u v h; exact h
      | cons z l ih => intro u v h; exact ih (h.append (h.map _))
    rw [spanL_cons, spanL_cons, spanL_cons, spanL_cons]
    refine base ?_
    rw [List.map_append, List.map_append, List.map_map, List.map_map]
    have e1 : (as.map ((· ^^^ x) ∘ (· ^^^ y))).Perm (as'.map ((· ^^^ y) ∘ (· ^^^ x))) := by
      have : ((· ^^^ x) ∘ (· ^^^ y) : Nat → Nat) = (· ^^^ y) ∘ (· ^^^ x) := by
        funext a
        show (a ^^^ y) ^^^ x = (a ^^^ x) ^^^ y
        rw [Nat.xor_assoc, Nat.xor_comm y x, ← Nat.xor_assoc]
      rw [this]
      exact q.map _
    have e2 : (as ++ as.map (· ^^^ y) ++ (as.map (· ^^^ x) ++ as.map ((· ^^^ x) ∘ (· ^^^ y)))).Perm (as ++ as.map (· ^^^ x) ++ (as.map (· ^^^ y) ++ as.map ((· ^^^ x) ∘ (· ^^^ y)))) := by
      rw [List.append_assoc, List.append_assoc]
      refine List.Perm.append_left _ ?_
      rw [← List.append_assoc, ← List.append_assoc]
      exact List.Perm.append_right _ List.perm_append_comm
    exact e2.trans (((q.append (q.map _)).append ((q.map _).append e1)))
  | trans _ _ ih1 ih2 => intro as as' q; exact (ih1 q).trans (ih2 (.refl _))
theorem top_lt {a b : Nat} (h : a < b) : ∃ p, p = (a ^^^ b).log2 ∧ a ^^^ b ≠ 0 ∧ a.testBit p = false ∧ b.testBit p = true ∧ ∀ i, p < i → a.testBit i = b.testBit i := by
  have n : a ^^^ b ≠ 0 := fun z => by
    have := xor_eq_zero z
    omega
  have above : ∀ i, (a ^^^ b).log2 < i → a.testBit i = b.testBit i := fun i hi => by
    have := tb_above hi
    rw [Nat.testBit_xor] at this
    cases ha : a.testBit i <;> cases hb : b.testBit i <;> rw [ha, hb] at this <;> first | rfl | cases this
  have t := tb_head n
  rw [Nat.testBit_xor] at t
  refine ⟨_, rfl, n, ?_, ?_, above⟩
  · cases ha : a.testBit (a ^^^ b).log2 with
    | false => rfl
    | true =>
      rw [ha] at t
      have hb : b.testBit (a ^^^ b).log2 = false := by simpa using t
      have := lt_of_tb _ hb ha fun j hj => (above j hj).symm
      omega
  · cases hb : b.testBit (a ^^^ b).log2 with
    | true => rfl
    | false =>
      rw [hb] at t
      have ha : a.testBit (a ^^^ b).log2 = true := by simpa using t
      have := lt_of_tb _ hb ha fun j hj => (above j hj).symm
      omega
theorem spanL_asc : ∀ (bs : List Nat) {ds acc : List Nat}, Red (bs ++ ds) → (ds.reverse ++ bs).Pairwise (fun a b => a.log2 < b.log2) → (∀ a ∈ acc, Sp ds a) → acc.Pairwise (· < ·) → (spanL bs acc).Pairwise (· < ·)
  | [], _, _, _, _, _, p => p
  | b :: bs, ds, acc, R, ho, hs, p => by
    rw [spanL_cons]
    have Rd : Red ds := ⟨fun x hx => R.pos x (List.mem_append_right _ hx), fun x hx y hy => R.one x (List.mem_append_right _ hx) y (List.mem_append_right _ hy), (List.nodup_append.mp R.nd).2.1⟩
    have hb : ∀ d ∈ ds, b.testBit d.log2 = false := fun d hd => by
      cases q : b.testBit d.log2 with
      | false => rfl
      | true =>
        have e := R.one d (List.mem_append_right _ hd) b List.mem_cons_self q
        rw [← e] at hd
        exact absurd rfl ((List.nodup_append.mp R.nd).2.2 b List.mem_cons_self b hd)
    have hlow : ∀ d ∈ ds, d.log2 < b.log2 := fun d hd => (List.pairwise_append.mp ho).2.2 d (List.mem_reverse.mpr hd) b List.mem_cons_self
    have off : ∀ a ∈ acc, a.testBit b.log2 = false ∧ ∀ i, b.log2 < i → a.testBit i = false := fun a ha =>
      ⟨sp_bit (fun d hd => tb_above (hlow d hd)) (hs a ha), fun i hi => sp_bit (fun d hd => tb_above (Nat.lt_trans (hlow d hd) hi)) (hs a ha)⟩
    have hbb : b.testBit b.log2 = true := tb_head (R.pos b List.mem_cons_self)
    refine spanL_asc bs (ds := b :: ds) (Red.perm R ?_) ?_ ?_ ?_
    · exact List.perm_middle
    · rw [List.reverse_cons, List.append_assoc]
      exact ho
    · intro a ha
      rcases List.mem_append.mp ha with z | z
      · exact .inl (hs a z)
      · obtain ⟨c, hc, rfl⟩ := List.mem_map.mp z
        right
        rw [xor_cancel]
        exact hs c hc
    · rw [List.pairwise_append]
      refine ⟨p, ?_, fun a ha c hc => ?_⟩
      · rw [List.pairwise_map]
        refine List.Pairwise.imp_of_mem ?_ p
        intro x y hx hy hxy
        obtain ⟨q, eq, n, h1, h2, h3⟩ := top_lt hxy
        obtain ⟨d, hd, el⟩ := red_head Rd (sp_xor (hs x hx) (hs y hy)) n
        have hq : b.testBit q = false := by rw [eq, el]; exact hb d hd
        refine lt_of_tb q ?_ ?_ fun j hj => ?_
        · rw [Nat.testBit_xor, h1, hq]; rfl
        · rw [Nat.testBit_xor, h2, hq]; rfl
        · rw [Nat.testBit_xor, Nat.testBit_xor, h3 j hj]
      · obtain ⟨e, he, rfl⟩ := List.mem_map.mp hc
        refine lt_of_tb b.log2 (off a ha).1 ?_ fun j hj => ?_
        · rw [Nat.testBit_xor, (off e he).1, hbb]; rfl
        · rw [Nat.testBit_xor, (off a ha).2 j hj, (off e he).2 j hj, tb_above hj]; rfl
end Gf
set_option Elab.async false
set_option linter.all false
namespace Gf
def D (a b : Nat) : Bool := ones 24 (a &&& b) % 2 == 1
theorem ones_par (a b : Nat) : (ones 24 (a ^^^ b) % 2 == 1) = ((ones 24 a % 2 == 1) ^^ (ones 24 b % 2 == 1)) := by
  have h := ones_sum 24 a b
  have e : ones 24 (a ^^^ b) % 2 = (ones 24 a % 2 + ones 24 b % 2) % 2 := by omega
  rw [e]
  rcases Nat.mod_two_eq_zero_or_one (ones 24 a) with h1 | h1 <;> rcases Nat.mod_two_eq_zero_or_one (ones 24 b) with h2 | h2 <;> rw [h1, h2] <;> rfl
theorem and_xor_left (a b c : Nat) : (a ^^^ b) &&& c = (a &&& c) ^^^ (b &&& c) := by
  apply Nat.eq_of_testBit_eq
  intro i
  simp only [Nat.testBit_and, Nat.testBit_xor]
  cases a.testBit i <;> cases b.testBit i <;> cases c.testBit i <;> rfl
theorem D_xor (a b c : Nat) : D (a ^^^ b) c = (D a c ^^ D b c) := by
  unfold D
  rw [and_xor_left, ones_par]
theorem D_comm (a b : Nat) : D a b = D b a := by
  unfold D
  rw [Nat.and_comm]
theorem D_xor2 (a b c : Nat) : D a (b ^^^ c) = (D a b ^^ D a c) := by
  rw [D_comm, D_xor, D_comm b, D_comm c]
theorem ones_zero : ∀ k, ones k 0 = 0
  | 0 => rfl
  | k + 1 => by
    show 0 % 2 + ones k (0 / 2) = 0
    rw [Nat.zero_div, ones_zero k]
theorem D_zero (a : Nat) : D 0 a = false := by
  unfold D
  rw [Nat.zero_and, ones_zero]
  rfl
theorem ones_pow : ∀ k p, p < k → ones k (2 ^ p) = 1
  | 0, p, h => by omega
  | k + 1, 0, _ => by
    show 1 % 2 + ones k (1 / 2) = 1
    rw [show 1 / 2 = 0 from rfl, ones_zero]
  | k + 1, p + 1, h => by
    show 2 ^ (p + 1) % 2 + ones k (2 ^ (p + 1) / 2) = 1
    rw [Nat.pow_succ, Nat.mul_mod_left, Nat.mul_div_cancel _ (by decide), ones_pow k p (by omega)]
theorem D_one {a b p : Nat} (hp : p < 24) (h : ∀ i, i ≠ p → (a.testBit i && b.testBit i) = false) : D a b = (a.testBit p && b.testBit p) := by
  have e : a &&& b = if (a.testBit p && b.testBit p) then 2 ^ p else 0 := by
    apply Nat.eq_of_testBit_eq
    intro i
    rw [Nat.testBit_and]
    by_cases hi : i = p
    · subst hi
      cases hh : (a.testBit i && b.testBit i) with
      | true => rw [if_pos rfl, Nat.testBit_two_pow_self]
      | false => rw [if_neg Bool.false_ne_true, Nat.zero_testBit]
    · rw [h i hi]
      split
      · rw [Nat.testBit_two_pow_of_ne (Ne.symm hi)]
      · rw [Nat.zero_testBit]
  unfold D
  rw [e]
  cases (a.testBit p && b.testBit p) with
  | true =>
    rw [if_pos rfl, ones_pow 24 p hp]
    rfl
  | false =>
    rw [if_neg Bool.false_ne_true, ones_zero]
    rfl
def Ev (ws : List Nat) (x : Nat) : Prop := ∀ w ∈ ws, D x w = false
theorem ev_sp : ∀ {ws : List Nat} {x v : Nat}, Ev ws x → Sp ws v → D x v = false
  | [], x, v, _, h => by
    cases (show v = 0 from h)
    rw [D_comm, D_zero]
  | w :: r, x, v, e, h => by
    have er : Ev r x := fun u hu => e u (List.mem_cons_of_mem _ hu)
    rcases h with h | h
    · exact ev_sp er h
    · have := ev_sp er h
      rw [D_xor2, e w List.mem_cons_self] at this
      simpa using this
theorem ev_xor {ws : List Nat} {x y : Nat} (h : Ev ws x) (g : Ev ws y) : Ev ws (x ^^^ y) := fun w hw => by rw [D_xor, h w hw, g w hw]; rfl
theorem ev_same {ws us : List Nat} (S : Same ws us) (x : Nat) : Ev ws x ↔ Ev us x :=
  ⟨fun h u hu => ev_sp h ((S u).mpr (sp_mem hu)), fun h u hu => ev_sp h ((S u).mp (sp_mem hu))⟩
def xorP (ps : List Nat) : Nat := ps.foldr (fun p a => 2 ^ p ^^^ a) 0
theorem xorP_bit : ∀ {ps : List Nat}, ps.Nodup → ∀ i, (xorP ps).testBit i = ps.contains i
  | [], _, i => by simp [xorP]
  | p :: ps, nd, i => by
    show (2 ^ p ^^^ xorP ps).testBit i = _
    rw [Nat.testBit_xor, xorP_bit (List.nodup_cons.mp nd).2, List.contains_cons]
    by_cases hi : i = p
    · subst hi
      rw [Nat.testBit_two_pow_self]
      have : ps.contains i = false := by
        rw [Bool.eq_false_iff]
        intro z
        exact (List.nodup_cons.mp nd).1 (List.contains_iff_mem.mp z)
      rw [this]
      simp
    · rw [Nat.testBit_two_pow_of_ne (Ne.symm hi)]
      have : (i == p) = false := beq_eq_false_iff_ne.mpr hi
      rw [this]
      simp
theorem add_xor : ∀ (k x y : Nat), x < 2 ^ k → x &&& y = 0 → x + y = x ^^^ y
  | 0, x, y, h, _ => by
    have : x = 0 := by simpa using h
    subst this
    rw [Nat.zero_add, Nat.zero_xor]
  | k + 1, x, y, h, e => by
    have e2 : x / 2 &&& y / 2 = 0 := by rw [← half_and, e]
    have ih := add_xor k (x / 2) (y / 2) (by rw [Nat.pow_succ] at h; omega) e2
    have hx : (x ^^^ y) / 2 = x / 2 ^^^ y / 2 := half_xor x y
    have hb : (x ^^^ y) % 2 = x % 2 + y % 2 := by
      have q : (x &&& y) % 2 = 0 := by rw [e]
      rw [low_bit, Nat.testBit_and] at q
      rw [low_bit (x ^^^ y), low_bit x, low_bit y, Nat.testBit_xor]
      cases hx : x.testBit 0 <;> cases hy : y.testBit 0 <;> rw [hx, hy] at q <;> simp_all
    omega
theorem sum_xorP : ∀ {ps : List Nat}, ps.Nodup → (ps.map (2 ^ ·)).sum = xorP ps
  | [], _ => rfl
  | p :: ps, nd => by
    rw [List.map_cons, List.sum_cons, sum_xorP (List.nodup_cons.mp nd).2]
    show 2 ^ p + xorP ps = 2 ^ p ^^^ xorP ps
    refine add_xor (p + 1) _ _ (Nat.pow_lt_pow_right (by decide) (by omega)) ?_
    apply Nat.eq_of_testBit_eq
    intro i
    rw [Nat.testBit_and, Nat.zero_testBit]
    by_cases hi : i = p
    · subst hi
      rw [xorP_bit (List.nodup_cons.mp nd).2]
      have : ps.contains i = false := by
        rw [Bool.eq_false_iff]
        intro z
        exact (List.nodup_cons.mp nd).1 (List.contains_iff_mem.mp z)
      rw [this, Bool.and_false]
    · rw [Nat.testBit_two_pow_of_ne (Ne.symm hi)]
      rfl
def free (l : Nat) (bs : List Nat) : List Nat := (List.range l).filter fun p => !(bs.map Nat.log2).contains p
def chk (bs : List Nat) (f : Nat) : Nat := xorP (f :: (bs.filter fun b => b.testBit f).map Nat.log2)
def chks (l : Nat) (bs : List Nat) : List Nat := (free l bs).map (chk bs)
theorem mem_free {l f : Nat} {bs : List Nat} : f ∈ free l bs ↔ f < l ∧ ∀ b ∈ bs, b.log2 ≠ f := by
  unfold free
  rw [List.mem_filter, List.mem_range]
  constructor
  · rintro ⟨h1, h2⟩
    refine ⟨h1, fun b hb e => ?_⟩
    have : (bs.map Nat.log2).contains f = true := List.contains_iff_mem.mpr (List.mem_map.mpr ⟨b, hb, e⟩)
    rw [this] at h2
    cases h2
  · rintro ⟨h1, h2⟩
    refine ⟨h1, ?_⟩
    have : (bs.map Nat.log2).contains f = false := by
      rw [Bool.eq_false_iff]
      intro z
      obtain ⟨b, hb, e⟩ := List.mem_map.mp (List.contains_iff_mem.mp z)
      exact h2 b hb e
    rw [this]
    rfl
theorem red_inj {bs : List Nat} (R : Red bs) {b c : Nat} (hb : b ∈ bs) (hc : c ∈ bs) (e : b.log2 = c.log2) : b = c := by
  have := tb_head (R.pos c hc)
  rw [← e] at this
  exact (R.one b hb c hc this).symm
theorem log_nodup {bs : List Nat} (R : Red bs) : (bs.map Nat.log2).Nodup := by
  rw [List.Nodup, List.pairwise_map]
  refine List.Pairwise.imp_of_mem ?_ R.nd
  intro a b ha hb hab z
  exact hab (red_inj R ha hb z)
theorem chk_nd {bs : List Nat} (R : Red bs) {l f : Nat} (hf : f ∈ free l bs) : (f :: (bs.filter fun b => b.testBit f).map Nat.log2).Nodup := by
  rw [List.nodup_cons]
  refine ⟨fun z => ?_, ?_⟩
  · obtain ⟨b, hb, e⟩ := List.mem_map.mp z
    exact (mem_free.mp hf).2 b (List.mem_filter.mp hb).1 e
  · have : ((bs.filter fun b => b.testBit f).map Nat.log2).Sublist (bs.map Nat.log2) := List.Sublist.map _ List.filter_sublist
    exact this.nodup (log_nodup R)
theorem chk_bit {bs : List Nat} (R : Red bs) {l f : Nat} (hf : f ∈ free l bs) (i : Nat) : (chk bs f).testBit i = true ↔ i = f ∨ ∃ b ∈ bs, b.testBit f = true ∧ b.log2 = i := by
  unfold chk
  rw [xorP_bit (chk_nd R hf), List.contains_iff_mem, List.mem_cons, List.mem_map]
  constructor
  · rintro (h | ⟨b, hb, e⟩)
    · exact .inl h
    · exact .inr ⟨b, (List.mem_filter.mp hb).1, (List.mem_filter.mp hb).2, e⟩
  · rintro (h | ⟨b, hb, h1, e⟩)
    · exact .inl h
    · exact .inr ⟨b, List.mem_filter.mpr ⟨hb, h1⟩, e⟩
section
variable {l : Nat} {bs : List Nat}
theorem chk_lt (B : BasN l bs) {f : Nat} (hf : f ∈ free l bs) : chk bs f < 2 ^ l := by
  apply Nat.lt_pow_two_of_testBit
  intro i hi
  rw [Bool.eq_false_iff]
  intro z
  rcases (chk_bit B.bas.red hf i).mp z with h | ⟨b, hb, _, e⟩
  · have := (mem_free.mp hf).1
    omega
  · have h0 := B.bas.red.pos b hb
    have := (Nat.log2_lt h0).mpr (B.lt b hb)
    omega
theorem head_lt (B : BasN l bs) {b : Nat} (hb : b ∈ bs) : b.log2 < l := (Nat.log2_lt (B.bas.red.pos b hb)).mpr (B.lt b hb)
theorem chk_ev (B : BasN l bs) (hl : l ≤ 24) {f : Nat} (hf : f ∈ free l bs) : Ev bs (chk bs f) := fun b hb => by
  have R := B.bas.red
  have hfl := (mem_free.mp hf).1
  have hhl := head_lt B hb
  have hne := (mem_free.mp hf).2 b hb
  -- apart from the place f
  have e : D (chk bs f) b = (D (2 ^ f) b ^^ D (chk bs f ^^^ 2 ^ f) b) := by
    rw [← D_xor]
    congr 1
    rw [Nat.xor_comm (2 ^ f), xor_cancel]
  rw [e]
  have c1 : D (2 ^ f) b = b.testBit f := by
    rw [D_one (p := f) (by omega) fun i hi => by rw [Nat.testBit_two_pow_of_ne (Ne.symm hi)]; rfl, Nat.testBit_two_pow_self]
    rfl
  have hcb : (chk bs f ^^^ 2 ^ f).testBit b.log2 = b.testBit f := by
    rw [Nat.testBit_xor, Nat.testBit_two_pow_of_ne (Ne.symm hne), Bool.xor_false]
    cases hh : b.testBit f with
    | true => exact (chk_bit R hf b.log2).mpr (.inr ⟨b, hb, hh, rfl⟩)
    | false =>
      rw [Bool.eq_false_iff]
      intro z
      rcases (chk_bit R hf b.log2).mp z with h | ⟨c, hc, h1, e⟩
      · exact hne h
      · rw [red_inj R hc hb e, hh] at h1
        cases h1
  have c2 : D (chk bs f ^^^ 2 ^ f) b = b.testBit f := by
    rw [D_one (p := b.log2) (by omega) fun i hi => ?_, hcb, tb_head (R.pos b hb), Bool.and_true]
    cases hbi : b.testBit i with
    | false => exact Bool.and_false _
    | true =>
      rw [Bool.and_true, Nat.testBit_xor]
      by_cases hif : i = f
      · subst hif
        rw [Nat.testBit_two_pow_self, (chk_bit R hf i).mpr (.inl rfl)]
        rfl
      · rw [Nat.testBit_two_pow_of_ne (Ne.symm hif), Bool.xor_false, Bool.eq_false_iff]
        intro z
        rcases (chk_bit R hf i).mp z with h | ⟨c, hc, _, e⟩
        · exact hif h
        · rw [← e] at hbi
          have := R.one c hc b hb hbi
          rw [this] at hi
          exact hi e.symm
  rw [c1, c2, Bool.xor_self]
theorem zero_of (B : BasN l bs) (hl : l ≤ 24) {y : Nat} (hy : y < 2 ^ l) (h : ∀ b ∈ bs, y.testBit b.log2 = false) (g : ∀ f ∈ free l bs, D y (chk bs f) = false) : y = 0 := by
  apply eq_zero_of
  intro i
  by_cases hi : i < l
  · by_cases hf : i ∈ free l bs
    · have := g i hf
      rw [D_one (p := i) (by omega) fun j hj => ?_, (chk_bit B.bas.red hf i).mpr (.inl rfl), Bool.and_true] at this
      · exact this
      · cases hc : (chk bs i).testBit j with
        | false => exact Bool.and_false _
        | true =>
          rw [Bool.and_true]
          rcases (chk_bit B.bas.red hf j).mp hc with h1 | ⟨b, hb, _, e⟩
          · exact absurd h1 hj
          · rw [← e]
            exact h b hb
    · have : ∃ b ∈ bs, b.log2 = i := by
        apply Classical.byContradiction
        intro z
        exact hf (mem_free.mpr ⟨hi, fun b hb e => z ⟨b, hb, e⟩⟩)
      obtain ⟨b, hb, e⟩ := this
      rw [← e]
      exact h b hb
  · exact Nat.testBit_lt_two_pow (Nat.lt_of_lt_of_le hy (Nat.pow_le_pow_right (by decide) (by omega)))
theorem sp_of_ev (B : BasN l bs) (hl : l ≤ 24) {x : Nat} (hx : x < 2 ^ l) (h : Ev (chks l bs) x) : Sp bs x := by
  have hs := rem_sp bs x
  have hr : rem bs x < 2 ^ l := by
    have := Nat.xor_lt_two_pow (sp_lt B.lt hs) hx
    rwa [xor_cancel] at this
  refine (rem_zero B.bas.red x).mp (zero_of B hl hr (rem_head B.bas.red x) fun f hf => ?_)
  have e : rem bs x = (rem bs x ^^^ x) ^^^ x := by rw [xor_cancel]
  rw [e, D_xor, h _ (List.mem_map.mpr ⟨f, hf, rfl⟩), Bool.xor_false, D_comm]
  exact ev_sp (chk_ev B hl hf) hs
theorem ev_sum (B : BasN l bs) (hl : l ≤ 24) {x : Nat} (hx : x < 2 ^ l) (h : Ev bs x) : Sp (chks l bs) x := by
  have R := B.bas.red
  -- the sum of the checks at the free places of x
  have step : ∀ fs : List Nat, (∀ f ∈ fs, f ∈ free l bs) → fs.Nodup → ∃ s, Sp (chks l bs) s ∧ s < 2 ^ l ∧ Ev bs s ∧ ∀ f ∈ free l bs, s.testBit f = fs.contains f := by
    intro fs
    induction fs with
    | nil => intro _ _; exact ⟨0, sp_zero _, Nat.two_pow_pos l, fun w _ => D_zero w, fun f _ => by simp⟩
    | cons f fs ih =>
      intro hm nd
      obtain ⟨s, h1, h2, h3, h4⟩ := ih (fun g hg => hm g (List.mem_cons_of_mem _ hg)) (List.nodup_cons.mp nd).2
      have hf := hm f List.mem_cons_self
      refine ⟨s ^^^ chk bs f, sp_xor h1 (sp_mem (List.mem_map.mpr ⟨f, hf, rfl⟩)), Nat.xor_lt_two_pow h2 (chk_lt B hf), ev_xor h3 (chk_ev B hl hf), fun g hg => ?_⟩
      rw [Nat.testBit_xor, h4 g hg, List.contains_cons]
      by_cases hgf : g = f
      · subst hgf
        have : fs.contains g = false := by
          rw [Bool.eq_false_iff]
          intro z
          exact (List.nodup_cons.mp nd).1 (List.contains_iff_mem.mp z)
        rw [this, (chk_bit R hf g).mpr (.inl rfl)]
        simp
      · have c : (chk bs f).testBit g = false := by
          rw [Bool.eq_false_iff]
          intro z
          rcases (chk_bit R hf g).mp z with q | ⟨b, hb, _, e⟩
          · exact hgf q
          · exact (mem_free.mp hg).2 b hb e
        rw [c, Bool.xor_false, show (g == f) = false from beq_eq_false_iff_ne.mpr hgf, Bool.false_or]
  obtain ⟨s, h1, h2, h3, h4⟩ := step ((free l bs).filter fun f => x.testBit f) (fun f hf => (List.mem_filter.mp hf).1) (List.Pairwise.filter _ (List.Pairwise.filter _ List.nodup_range))
  have hz : x ^^^ s = 0 := by
    have hev := ev_xor h h3
    have hlt := Nat.xor_lt_two_pow hx h2
    have hfr : ∀ f ∈ free l bs, (x ^^^ s).testBit f = false := fun f hf => by
      rw [Nat.testBit_xor, h4 f hf]
      cases hxf : x.testBit f with
      | true =>
        have : ((free l bs).filter fun f => x.testBit f).contains f = true := List.contains_iff_mem.mpr (List.mem_filter.mpr ⟨hf, hxf⟩)
        rw [this]
        rfl
      | false =>
        have : ((free l bs).filter fun f => x.testBit f).contains f = false := by
          rw [Bool.eq_false_iff]
          intro z
          have := (List.mem_filter.mp (List.contains_iff_mem.mp z)).2
          rw [hxf] at this
          cases this
        rw [this]
        rfl
    apply eq_zero_of
    intro i
    by_cases hi : i < l
    · by_cases hf : i ∈ free l bs
      · exact hfr i hf
      · have : ∃ b ∈ bs, b.log2 = i := by
          apply Classical.byContradiction
          intro z
          exact hf (mem_free.mpr ⟨hi, fun b hb e => z ⟨b, hb, e⟩⟩)
        obtain ⟨b, hb, e⟩ := this
        have q := hev b hb
        rw [D_one (p := b.log2) (by have := head_lt B hb; omega) fun j hj => ?_, tb_head (R.pos b hb), Bool.and_true, e] at q
        · exact q
        · cases hbj : b.testBit j with
          | false => exact Bool.and_false _
          | true =>
            rw [Bool.and_true]
            by_cases hjl : j < l
            · by_cases hfj : j ∈ free l bs
              · exact hfr j hfj
              · have : ∃ c ∈ bs, c.log2 = j := by
                  apply Classical.byContradiction
                  intro z
                  exact hfj (mem_free.mpr ⟨hjl, fun b hb e => z ⟨b, hb, e⟩⟩)
                obtain ⟨c, hc, ec⟩ := this
                rw [← ec] at hbj
                have := R.one c hc b hb hbj
                rw [this] at hj
                exact absurd ec.symm hj
            · exact Nat.testBit_lt_two_pow (Nat.lt_of_lt_of_le hlt (Nat.pow_le_pow_right (by decide) (by omega)))
    · exact Nat.testBit_lt_two_pow (Nat.lt_of_lt_of_le hlt (Nat.pow_le_pow_right (by decide) (by omega)))
  rw [xor_eq_zero hz]
  exact h1
end
def dualB (l : Nat) (bs : List Nat) : List Nat := basis (chks l bs)
section
variable {l : Nat} {bs : List Nat}
theorem chks_lt (B : BasN l bs) : ∀ c ∈ chks l bs, c < 2 ^ l := fun c hc => by
  obtain ⟨f, hf, rfl⟩ := List.mem_map.mp hc
  exact chk_lt B hf
theorem dual_basN (B : BasN l bs) : BasN l (dualB l bs) := basN l (chks_lt B)
theorem dual_sp (B : BasN l bs) (hl : l ≤ 24) (x : Nat) : Sp (dualB l bs) x ↔ x < 2 ^ l ∧ Ev bs x := by
  constructor
  · intro h
    refine ⟨sp_lt (dual_basN B).lt h, ?_⟩
    have h2 := (basis_same (chks l bs) x).mp h
    intro b hb
    rw [D_comm]
    refine ev_sp (fun c hc => ?_) h2
    obtain ⟨f, hf, rfl⟩ := List.mem_map.mp hc
    rw [D_comm]
    exact chk_ev B hl hf b hb
  · rintro ⟨h1, h2⟩
    exact (basis_same (chks l bs) x).mpr (ev_sum B hl h1 h2)
theorem dual_dual (B : BasN l bs) (hl : l ≤ 24) : dualB l (dualB l bs) = bs := by
  refine red_unique (dual_basN (dual_basN B)).bas.red B.bas.red (fun x => ?_) (dual_basN (dual_basN B)).bas.ord B.bas.ord
  rw [dual_sp (dual_basN B) hl]
  constructor
  · rintro ⟨h1, h2⟩
    exact sp_of_ev B hl h1 ((ev_same (basis_same _) x).mp h2)
  · intro h
    refine ⟨sp_lt B.lt h, fun c hc => ?_⟩
    rw [D_comm]
    exact ev_sp ((dual_sp B hl c).mp (sp_mem hc)).2 h
theorem dual_eq {cs : List Nat} (B : BasN l bs) (C : BasN l cs) (hl : l ≤ 24) (h : ∀ x, x < 2 ^ l → (Sp cs x ↔ Ev bs x)) : cs = dualB l bs := by
  refine red_unique C.bas.red (dual_basN B).bas.red (fun x => ?_) C.bas.ord (dual_basN B).bas.ord
  rw [dual_sp B hl]
  exact ⟨fun z => ⟨sp_lt C.lt z, (h x (sp_lt C.lt z)).mp z⟩, fun z => (h x z.1).mpr z.2⟩
end
end Gf
set_option Elab.async false
set_option linter.all false
namespace Gf
theorem bas_len {l : Nat} {bs : List Nat} (B : BasN l bs) : bs.length + (free l bs).length = l := by
  have h1 : (bs.map Nat.log2).length = bs.length := List.length_map ..
  have key : ∀ (hs : List Nat) (m : Nat), hs.Nodup → (∀ x ∈ hs, x < m) → hs.length + ((List.range m).filter fun p => !hs.contains p).length = m := by
    intro hs m nd hlt
    have e : ((List.range m).filter fun p => hs.contains p).length + ((List.range m).filter fun p => !hs.contains p).length = (List.range m).length := by
      generalize List.range m = r
      induction r with
      | nil => rfl
      | cons a r ih =>
        rw [List.filter_cons, List.filter_cons]
        cases hs.contains a with
        | true => simp only [if_true, Bool.not_true, Bool.false_eq_true, if_false, List.length_cons]; omega
        | false => simp only [Bool.false_eq_true, if_false, Bool.not_false, if_true, List.length_cons]; omega
    have p : ((List.range m).filter fun p => hs.contains p).Perm hs := by
      refine (List.perm_ext_iff_of_nodup (List.Pairwise.filter _ List.nodup_range) nd).mpr fun x => ?_
      rw [List.mem_filter, List.mem_range, List.contains_iff_mem]
      exact ⟨fun h => h.2, fun h => ⟨hlt x h, h⟩⟩
    rw [p.length_eq, List.length_range] at e
    exact e
  have := key (bs.map Nat.log2) l (log_nodup B.bas.red) (fun x hx => by
    obtain ⟨b, hb, rfl⟩ := List.mem_map.mp hx
    exact head_lt B hb)
  rw [h1] at this
  exact this
theorem withW_new {bs : List Nat} {w : Nat} (B : Bas bs) (h : ¬ Sp bs w) : (withW bs w).length = bs.length + 1 := by
  unfold withW
  rw [if_neg fun z => h ((rem_zero B.red w).mp z), (desc_perm _).length_eq]
  unfold more
  rw [List.length_append, List.length_map]
  rfl
theorem withW_old {bs : List Nat} {w : Nat} (B : Bas bs) (h : Sp bs w) : (withW bs w).length = bs.length := by
  unfold withW
  rw [if_pos ((rem_zero B.red w).mpr h)]
theorem basis_snoc (ws : List Nat) (w : Nat) : basis (ws ++ [w]) = withW (basis ws) w := by
  unfold basis basisF
  rw [List.foldl_append]
  rfl
theorem dim_new {ws : List Nat} {w : Nat} (h : ¬ Sp ws w) : (basis (ws ++ [w])).length = (basis ws).length + 1 := by
  rw [basis_snoc]
  exact withW_new (basis_bas ws) fun z => h ((basis_same ws w).mp z)
theorem dim_old {ws : List Nat} {w : Nat} (h : Sp ws w) : (basis (ws ++ [w])).length = (basis ws).length := by
  rw [basis_snoc]
  exact withW_old (basis_bas ws) ((basis_same ws w).mpr h)
theorem dim_places {α : Type} {f : α → Nat} {p : α → Nat} : ∀ (xs : List α), (∀ x ∈ xs, (f x).testBit (p x) = true) → xs.Pairwise (fun x y => (f x).testBit (p y) = false) → (basis (xs.map f)).length = xs.length := by
  intro xs
  have key : ∀ (ys zs : List α), (∀ y ∈ ys ++ zs, (f y).testBit (p y) = true) → (ys ++ zs).Pairwise (fun x y => (f x).testBit (p y) = false) → (basis (ys.map f)).length = ys.length → (basis ((ys ++ zs).map f)).length = (ys ++ zs).length := by
    intro ys zs
    induction zs generalizing ys with
    | nil => intro _ _ h; simpa using h
    | cons z zs ih =>
      intro h1 h2 h3
      have e : ys ++ z :: zs = (ys ++ [z]) ++ zs := by rw [List.append_assoc]; rfl
      rw [e] at h1 h2 ⊢
      refine ih (ys ++ [z]) h1 h2 ?_
      rw [List.map_append, List.map_singleton, dim_new, h3, List.length_append]
      · rfl
      · intro hs
        have hz := h1 z (List.mem_append_left _ (List.mem_append_right _ (List.mem_singleton.mpr rfl)))
        have off : ∀ w ∈ ys.map f, w.testBit (p z) = false := fun w hw => by
          obtain ⟨y, hy, rfl⟩ := List.mem_map.mp hw
          have := (List.pairwise_append.mp h2).1
          exact (List.pairwise_append.mp this).2.2 y hy z (List.mem_singleton.mpr rfl)
        rw [sp_bit off hs] at hz
        cases hz
  intro h1 h2
  exact key [] xs h1 h2 rfl
theorem dual_dim {l : Nat} {bs : List Nat} (B : BasN l bs) : (dualB l bs).length + bs.length = l := by
  have e : (dualB l bs).length = (free l bs).length := by
    unfold dualB chks
    refine dim_places (p := fun f => f) (free l bs) (fun f hf => (chk_bit B.bas.red hf f).mpr (.inl rfl)) ?_
    have nd : (free l bs).Nodup := List.Pairwise.filter _ List.nodup_range
    refine List.Pairwise.imp_of_mem ?_ nd
    intro f g hf hg hne
    rw [Bool.eq_false_iff]
    intro z
    rcases (chk_bit B.bas.red hf g).mp z with q | ⟨b, hb, _, q⟩
    · exact hne q.symm
    · exact (mem_free.mp hg).2 b hb q
  have := bas_len B
  omega
theorem sp_app {as bs : List Nat} {x : Nat} : Sp (as ++ bs) x ↔ ∃ a b, Sp as a ∧ Sp bs b ∧ x = a ^^^ b := by
  constructor
  · intro h
    induction as generalizing x with
    | nil => exact ⟨0, x, rfl, h, (Nat.zero_xor x).symm⟩
    | cons w as ih =>
      rcases h with h | h
      · obtain ⟨a, b, h1, h2, h3⟩ := ih h
        exact ⟨a, b, .inl h1, h2, h3⟩
      · obtain ⟨a, b, h1, h2, h3⟩ := ih h
        refine ⟨a ^^^ w, b, .inr (by rw [xor_cancel]; exact h1), h2, ?_⟩
        rw [Nat.xor_assoc, Nat.xor_comm w b, ← Nat.xor_assoc, ← h3, xor_cancel]
  · rintro ⟨a, b, h1, h2, rfl⟩
    exact sp_xor (sp_sub (fun y hy => sp_mem (List.mem_append_left _ hy)) h1) (sp_sub (fun y hy => sp_mem (List.mem_append_right _ hy)) h2)
def meetB (l : Nat) (as bs : List Nat) : List Nat := dualB l (basis (dualB l as ++ dualB l bs))
section
variable {l : Nat} {as bs : List Nat}
theorem sum_basN (A : BasN l as) (B : BasN l bs) : BasN l (basis (dualB l as ++ dualB l bs)) := basN l fun w hw => by
  rcases List.mem_append.mp hw with z | z
  · exact (dual_basN A).lt w z
  · exact (dual_basN B).lt w z
theorem meet_basN (A : BasN l as) (B : BasN l bs) : BasN l (meetB l as bs) := dual_basN (sum_basN A B)
theorem ev_dual (B : BasN l bs) (hl : l ≤ 24) {x : Nat} (hx : x < 2 ^ l) : Ev (dualB l bs) x ↔ Sp bs x := by
  have := dual_sp (dual_basN B) hl x
  rw [dual_dual B hl] at this
  exact ⟨fun h => this.mpr ⟨hx, h⟩, fun h => (this.mp h).2⟩
theorem meet_sp (A : BasN l as) (B : BasN l bs) (hl : l ≤ 24) (x : Nat) : Sp (meetB l as bs) x ↔ Sp as x ∧ Sp bs x := by
  unfold meetB
  rw [dual_sp (sum_basN A B) hl]
  constructor
  · rintro ⟨h1, h2⟩
    have h3 := (ev_same (basis_same _) x).mp h2
    exact ⟨(ev_dual A hl h1).mp fun w hw => h3 w (List.mem_append_left _ hw), (ev_dual B hl h1).mp fun w hw => h3 w (List.mem_append_right _ hw)⟩
  · rintro ⟨h1, h2⟩
    have hx := sp_lt A.lt h1
    refine ⟨hx, (ev_same (basis_same _) x).mpr fun w hw => ?_⟩
    rcases List.mem_append.mp hw with z | z
    · exact (ev_dual A hl hx).mpr h1 w z
    · exact (ev_dual B hl hx).mpr h2 w z
end
end Gf
set_option Elab.async false
set_option linter.all false
namespace Gf
def cutF (i w : Nat) : List Nat → Nat
  | [] => 0
  | p :: r => (if w.testBit p then 2 ^ i else 0) ^^^ cutF (i + 1) w r
def embF (i y : Nat) : List Nat → Nat
  | [] => 0
  | p :: r => (if y.testBit i then 2 ^ p else 0) ^^^ embF (i + 1) y r
theorem cut_xor : ∀ (ps : List Nat) (i a b : Nat), cutF i (a ^^^ b) ps = cutF i a ps ^^^ cutF i b ps
  | [], _, _, _ => by simp [cutF]
  | p :: r, i, a, b => by
    show (if (a ^^^ b).testBit p then 2 ^ i else 0) ^^^ cutF (i + 1) (a ^^^ b) r = ((if a.testBit p then 2 ^ i else 0) ^^^ cutF (i + 1) a r) ^^^ ((if b.testBit p then 2 ^ i else 0) ^^^ cutF (i + 1) b r)
    rw [cut_xor r, Nat.testBit_xor]
    have e : ∀ u v x y : Nat, (u ^^^ v) ^^^ (x ^^^ y) = (u ^^^ x) ^^^ (v ^^^ y) := fun u v x y => by
      rw [Nat.xor_assoc, Nat.xor_assoc, ← Nat.xor_assoc v, Nat.xor_comm v x, Nat.xor_assoc x]
    rw [e]
    congr 1
    cases a.testBit p <;> cases b.testBit p <;> simp
theorem cut_zero : ∀ (ps : List Nat) (i : Nat), cutF i 0 ps = 0
  | [], _ => rfl
  | p :: r, i => by
    show (if (0 : Nat).testBit p then 2 ^ i else 0) ^^^ cutF (i + 1) 0 r = 0
    rw [cut_zero r, Nat.zero_testBit, if_neg Bool.false_ne_true, Nat.xor_zero]
theorem cut_bit : ∀ (ps : List Nat) (i w j : Nat), (cutF i w ps).testBit j = if i ≤ j then (match ps[j - i]? with | some p => w.testBit p | none => false) else false
  | [], i, w, j => by
    show (0 : Nat).testBit j = _
    rw [Nat.zero_testBit]
    split <;> simp
  | p :: r, i, w, j => by
    show ((if w.testBit p then 2 ^ i else 0) ^^^ cutF (i + 1) w r).testBit j = _
    rw [Nat.testBit_xor, cut_bit r]
    by_cases h1 : j = i
    · subst h1
      have e1 : ¬ (j + 1 ≤ j) := by omega
      rw [if_neg e1, if_pos (Nat.le_refl j), Nat.sub_self]
      show ((if w.testBit p then 2 ^ j else 0).testBit j ^^ false) = w.testBit p
      cases w.testBit p with
      | true => rw [if_pos rfl, Nat.testBit_two_pow_self]; rfl
      | false => rw [if_neg Bool.false_ne_true, Nat.zero_testBit]; rfl
    · have z : (if w.testBit p then 2 ^ i else 0).testBit j = false := by
        cases w.testBit p with
        | true => rw [if_pos rfl, Nat.testBit_two_pow_of_ne (Ne.symm h1)]
        | false => rw [if_neg Bool.false_ne_true, Nat.zero_testBit]
      rw [z, Bool.false_xor]
      by_cases h2 : i ≤ j
      · rw [if_pos (by omega), if_pos h2, show j - i = (j - (i + 1)) + 1 by omega, List.getElem?_cons_succ]
      · rw [if_neg (by omega), if_neg h2]
theorem cut_lt (ps : List Nat) (w : Nat) : cutF 0 w ps < 2 ^ ps.length := by
  apply Nat.lt_pow_two_of_testBit
  intro j hj
  rw [cut_bit, if_pos (Nat.zero_le _), Nat.sub_zero, List.getElem?_eq_none hj]
theorem cut_xorP (ps : List Nat) (w : Nat) : xorP ((List.range ps.length).filter fun i => w.testBit (ps.getD i 0)) = cutF 0 w ps := by
  apply Nat.eq_of_testBit_eq
  intro j
  rw [xorP_bit (List.Pairwise.filter _ List.nodup_range), cut_bit, if_pos (Nat.zero_le _), Nat.sub_zero]
  by_cases hj : j < ps.length
  · rw [List.getElem?_eq_getElem hj]
    show _ = w.testBit ps[j]
    have e : ps.getD j 0 = ps[j] := by
      rw [List.getD_eq_getElem?_getD, List.getElem?_eq_getElem hj]
      rfl
    cases hb : w.testBit ps[j] with
    | true =>
      refine List.contains_iff_mem.mpr (List.mem_filter.mpr ⟨List.mem_range.mpr hj, ?_⟩)
      rw [e, hb]
    | false =>
      rw [Bool.eq_false_iff]
      intro z
      have := (List.mem_filter.mp (List.contains_iff_mem.mp z)).2
      rw [e, hb] at this
      cases this
  · rw [List.getElem?_eq_none (by omega), Bool.eq_false_iff]
    intro z
    have := List.mem_range.mp (List.mem_filter.mp (List.contains_iff_mem.mp z)).1
    omega
def In (ps : List Nat) (x : Nat) : Prop := ∀ i, x.testBit i = true → i ∈ ps
theorem emb_in : ∀ (ps : List Nat) (i y : Nat), In ps (embF i y ps)
  | [], _, _ => fun j h => by
    have : (0 : Nat).testBit j = true := h
    rw [Nat.zero_testBit] at this
    cases this
  | p :: r, i, y => fun j h => by
    have h : ((if y.testBit i then 2 ^ p else 0) ^^^ embF (i + 1) y r).testBit j = true := h
    by_cases hj : j = p
    · rw [hj]
      exact List.mem_cons_self
    · refine List.mem_cons_of_mem _ (emb_in r (i + 1) y j ?_)
      rw [Nat.testBit_xor] at h
      have z : (if y.testBit i then 2 ^ p else 0).testBit j = false := by
        cases y.testBit i with
        | true => rw [if_pos rfl, Nat.testBit_two_pow_of_ne (Ne.symm hj)]
        | false => rw [if_neg Bool.false_ne_true, Nat.zero_testBit]
      rwa [z, Bool.false_xor] at h
theorem D_emb : ∀ (ps : List Nat) (i y c : Nat), (∀ p ∈ ps, p < 24) → i + ps.length ≤ 24 → D (embF i y ps) c = D y (cutF i c ps)
  | [], i, y, c, _, _ => by
    rw [show embF i y [] = 0 from rfl, show cutF i c [] = 0 from rfl, D_zero, D_comm, D_zero]
  | p :: r, i, y, c, hp, hl => by
    rw [List.length_cons] at hl
    have ih := D_emb r (i + 1) y c (fun q hq => hp q (List.mem_cons_of_mem _ hq)) (by omega)
    have e1 : embF i y (p :: r) = (if y.testBit i then 2 ^ p else 0) ^^^ embF (i + 1) y r := rfl
    have e2 : cutF i c (p :: r) = (if c.testBit p then 2 ^ i else 0) ^^^ cutF (i + 1) c r := rfl
    have a : ∀ q x, q < 24 → D (2 ^ q) x = x.testBit q := fun q x hq => by
      rw [D_one (p := q) hq fun j hj => by rw [Nat.testBit_two_pow_of_ne (Ne.symm hj)]; rfl, Nat.testBit_two_pow_self, Bool.true_and]
    have key : D (if y.testBit i then 2 ^ p else 0) c = D y (if c.testBit p then 2 ^ i else 0) := by
      have a1 := a p c (hp p List.mem_cons_self)
      have a2 := a i y (by omega)
      have a3 := D_comm y (2 ^ i)
      have a4 := D_comm y 0
      have a5 := D_zero y
      have a6 := D_zero c
      cases hy : y.testBit i <;> cases hc : c.testBit p <;> rw [hy] at a2 <;> rw [hc] at a1 <;> simp only [if_true, Bool.false_eq_true, if_false, a1, a2, a3, a4, a5, a6]
    rw [e1, e2, D_xor, D_xor2, ih, key]
theorem emb_bit : ∀ (ps : List Nat) (i y : Nat) (k : Nat) (p : Nat), ps.Nodup → ps[k]? = some p → (embF i y ps).testBit p = y.testBit (i + k)
  | [], _, _, _, _, _, h => by simp at h
  | q :: r, i, y, 0, p, nd, h => by
    cases Option.some.inj h
    show ((if y.testBit i then 2 ^ q else 0) ^^^ embF (i + 1) y r).testBit q = _
    rw [Nat.testBit_xor, Nat.add_zero]
    have z : (embF (i + 1) y r).testBit q = false := by
      rw [Bool.eq_false_iff]
      intro w
      exact (List.nodup_cons.mp nd).1 (emb_in r (i + 1) y q w)
    rw [z, Bool.xor_false]
    cases y.testBit i with
    | true => rw [if_pos rfl, Nat.testBit_two_pow_self]
    | false => rw [if_neg Bool.false_ne_true, Nat.zero_testBit]
  | q :: r, i, y, k + 1, p, nd, h => by
    have h2 : r[k]? = some p := by simpa using h
    have hm : p ∈ r := List.mem_of_getElem? h2
    have hne : p ≠ q := fun z => (List.nodup_cons.mp nd).1 (z ▸ hm)
    show ((if y.testBit i then 2 ^ q else 0) ^^^ embF (i + 1) y r).testBit p = _
    rw [Nat.testBit_xor, emb_bit r (i + 1) y k p (List.nodup_cons.mp nd).2 h2]
    have z : (if y.testBit i then 2 ^ q else 0).testBit p = false := by
      cases y.testBit i with
      | true => rw [if_pos rfl, Nat.testBit_two_pow_of_ne (Ne.symm hne)]
      | false => rw [if_neg Bool.false_ne_true, Nat.zero_testBit]
    rw [z, Bool.false_xor, show i + 1 + k = i + (k + 1) by omega]
theorem cut_emb {ps : List Nat} (nd : ps.Nodup) {y : Nat} (hy : y < 2 ^ ps.length) : cutF 0 (embF 0 y ps) ps = y := by
  apply Nat.eq_of_testBit_eq
  intro j
  rw [cut_bit, if_pos (Nat.zero_le _), Nat.sub_zero]
  by_cases hj : j < ps.length
  · rw [List.getElem?_eq_getElem hj]
    dsimp only
    rw [emb_bit ps 0 y j _ nd (List.getElem?_eq_getElem hj), Nat.zero_add]
  · rw [List.getElem?_eq_none (by omega)]
    exact (Nat.testBit_lt_two_pow (Nat.lt_of_lt_of_le hy (Nat.pow_le_pow_right (by decide) (by omega)))).symm
theorem emb_cut {ps : List Nat} (nd : ps.Nodup) {x : Nat} (hx : In ps x) : embF 0 (cutF 0 x ps) ps = x := by
  apply Nat.eq_of_testBit_eq
  intro j
  by_cases hj : j ∈ ps
  · obtain ⟨k, hk, e⟩ := List.getElem_of_mem hj
    have e2 : ps[k]? = some j := by rw [List.getElem?_eq_getElem hk, e]
    rw [emb_bit ps 0 _ k j nd e2, Nat.zero_add, cut_bit, if_pos (Nat.zero_le _), Nat.sub_zero, e2]
  · have a : x.testBit j = false := by
      rw [Bool.eq_false_iff]
      intro z
      exact hj (hx j z)
    rw [a, Bool.eq_false_iff]
    intro z
    exact hj (emb_in ps 0 _ j z)
theorem map_sp {f : Nat → Nat} (hf : ∀ a b, f (a ^^^ b) = f a ^^^ f b) (h0 : f 0 = 0) : ∀ {ws : List Nat} {y : Nat}, Sp (ws.map f) y ↔ ∃ x, Sp ws x ∧ f x = y
  | [], y => by
    constructor
    · intro h
      exact ⟨0, rfl, by rw [h0]; exact (show y = 0 from h).symm⟩
    · rintro ⟨x, h1, h2⟩
      rw [show x = 0 from h1, h0] at h2
      exact h2.symm
  | w :: ws, y => by
    constructor
    · intro h
      rcases h with h | h
      · obtain ⟨x, h1, h2⟩ := (map_sp hf h0).mp h
        exact ⟨x, .inl h1, h2⟩
      · obtain ⟨x, h1, h2⟩ := (map_sp hf h0).mp h
        refine ⟨x ^^^ w, .inr (by rw [xor_cancel]; exact h1), ?_⟩
        rw [hf, h2, xor_cancel]
    · rintro ⟨x, h1, h2⟩
      rcases h1 with h1 | h1
      · exact .inl ((map_sp hf h0).mpr ⟨x, h1, h2⟩)
      · right
        refine (map_sp hf h0).mpr ⟨x ^^^ w, h1, ?_⟩
        rw [hf, h2]
def units (ps : List Nat) : List Nat := ps.map (2 ^ ·)
theorem in_xor {ps : List Nat} {a b : Nat} (ha : In ps a) (hb : In ps b) : In ps (a ^^^ b) := fun i h => by
  rw [Nat.testBit_xor] at h
  cases h1 : a.testBit i with
  | true => exact ha i h1
  | false =>
    rw [h1, Bool.false_xor] at h
    exact hb i h
theorem units_sp : ∀ {ps : List Nat} {x : Nat}, Sp (units ps) x ↔ In ps x
  | [], x => by
    constructor
    · intro h i hi
      rw [show x = 0 from h, Nat.zero_testBit] at hi
      cases hi
    · intro h
      exact eq_zero_of fun i => by
        rw [Bool.eq_false_iff]
        intro z
        exact absurd (h i z) (by simp)
  | p :: ps, x => by
    constructor
    · intro h
      rcases h with h | h
      · intro i hi
        exact List.mem_cons_of_mem _ (units_sp.mp h i hi)
      · have h1 := units_sp.mp h
        intro i hi
        by_cases hp : i = p
        · rw [hp]; exact List.mem_cons_self
        · refine List.mem_cons_of_mem _ (h1 i ?_)
          rw [Nat.testBit_xor, Nat.testBit_two_pow_of_ne (Ne.symm hp), Bool.xor_false]
          exact hi
    · intro h
      by_cases hb : x.testBit p = true ∧ ¬ p ∈ ps
      · right
        refine units_sp.mpr fun i hi => ?_
        rw [Nat.testBit_xor] at hi
        by_cases hp : i = p
        · subst hp
          rw [hb.1, Nat.testBit_two_pow_self] at hi
          cases hi
        · rw [Nat.testBit_two_pow_of_ne (Ne.symm hp), Bool.xor_false] at hi
          exact (List.mem_cons.mp (h i hi)).resolve_left hp
      · left
        refine units_sp.mpr fun i hi => ?_
        rcases List.mem_cons.mp (h i hi) with z | z
        · subst z
          apply Classical.byContradiction
          intro w
          exact hb ⟨hi, w⟩
        · exact z
def traceB (bs ps : List Nat) : List Nat := basis (bs.map fun w => cutF 0 w ps)
def withinB (l : Nat) (bs ps : List Nat) : List Nat := meetB l bs (basis (units ps))
def partB (l : Nat) (bs ps : List Nat) : List Nat := basis ((withinB l bs ps).map fun w => cutF 0 w ps)
structure Lot (l : Nat) (ps : List Nat) : Prop where
  asc : ps.Pairwise (· < ·)
  lt : ∀ p ∈ ps, p < l
theorem Lot.nd {l : Nat} {ps : List Nat} (L : Lot l ps) : ps.Nodup := L.asc.imp fun h => Nat.ne_of_lt h
theorem Lot.len {l : Nat} {ps : List Nat} (L : Lot l ps) : ps.length ≤ l := by
  have : ps.Sublist ps := List.Sublist.refl _
  have h : ∀ (qs : List Nat) (m : Nat), qs.Pairwise (· < ·) → (∀ q ∈ qs, q < m) → qs.length ≤ m := by
    intro qs
    induction qs with
    | nil => intro m _ _; exact Nat.zero_le _
    | cons q qs ih =>
      intro m p hl
      -- map each later one down by one
      have h1 := ih (m := m)
      have key : ∀ (rs : List Nat) (b m : Nat), rs.Pairwise (· < ·) → (∀ r ∈ rs, b ≤ r ∧ r < m) → rs.length ≤ m - b := by
        intro rs
        induction rs with
        | nil => intro b m _ _; exact Nat.zero_le _
        | cons r rs ih2 =>
          intro b m p2 h2
          obtain ⟨a1, a2⟩ := h2 r List.mem_cons_self
          have := ih2 (r + 1) m (List.pairwise_cons.mp p2).2 (fun s hs => ⟨(List.pairwise_cons.mp p2).1 s hs, (h2 s (List.mem_cons_of_mem _ hs)).2⟩)
          rw [List.length_cons]
          omega
      have := key (q :: qs) 0 m p (fun r hr => ⟨Nat.zero_le _, hl r hr⟩)
      omega
  exact h ps l L.asc L.lt
section
variable {l : Nat} {bs ps : List Nat}
theorem trace_basN (ps : List Nat) : BasN ps.length (traceB bs ps) := basN ps.length fun w hw => by
  obtain ⟨x, _, rfl⟩ := List.mem_map.mp hw
  exact cut_lt ps x
theorem part_basN : BasN ps.length (partB l bs ps) := basN ps.length fun w hw => by
  obtain ⟨x, _, rfl⟩ := List.mem_map.mp hw
  exact cut_lt ps x
theorem trace_sp (y : Nat) : Sp (traceB bs ps) y ↔ ∃ x, Sp bs x ∧ cutF 0 x ps = y := by
  unfold traceB
  rw [basis_same _ y]
  exact map_sp (cut_xor ps 0) (cut_zero ps 0)
theorem units_basN (L : Lot l ps) : BasN l (basis (units ps)) := basN l fun w hw => by
  obtain ⟨p, hp, rfl⟩ := List.mem_map.mp hw
  exact Nat.pow_lt_pow_right (by decide) (L.lt p hp)
theorem within_sp (B : BasN l bs) (L : Lot l ps) (hl : l ≤ 24) (x : Nat) : Sp (withinB l bs ps) x ↔ Sp bs x ∧ In ps x := by
  unfold withinB
  rw [meet_sp B (units_basN L) hl, basis_same _ x, units_sp]
theorem within_basN (B : BasN l bs) (L : Lot l ps) : BasN l (withinB l bs ps) := meet_basN B (units_basN L)
theorem part_sp (B : BasN l bs) (L : Lot l ps) (hl : l ≤ 24) (y : Nat) : Sp (partB l bs ps) y ↔ ∃ x, Sp bs x ∧ In ps x ∧ cutF 0 x ps = y := by
  unfold partB
  rw [basis_same _ y, map_sp (cut_xor ps 0) (cut_zero ps 0)]
  constructor
  · rintro ⟨x, h1, h2⟩
    obtain ⟨h3, h4⟩ := (within_sp B L hl x).mp h1
    exact ⟨x, h3, h4, h2⟩
  · rintro ⟨x, h1, h2, h3⟩
    exact ⟨x, (within_sp B L hl x).mpr ⟨h1, h2⟩, h3⟩
theorem part_dual (B : BasN l bs) (L : Lot l ps) (hl : l ≤ 24) : partB l bs ps = dualB ps.length (traceB (dualB l bs) ps) := by
  have hm : ps.length ≤ 24 := Nat.le_trans L.len hl
  refine dual_eq (trace_basN ps) part_basN hm fun y hy => ?_
  have hp : ∀ p ∈ ps, p < 24 := fun p h => Nat.lt_of_lt_of_le (L.lt p h) hl
  rw [part_sp B L hl]
  constructor
  · rintro ⟨x, h1, h2, h3⟩
    intro t ht
    obtain ⟨c, hc, rfl⟩ := (trace_sp t).mp (sp_mem ht)
    rw [← D_emb ps 0 y c hp (by omega), ← h3, emb_cut L.nd h2]
    exact ev_sp ((ev_dual B hl (sp_lt B.lt h1)).mpr h1) hc
  · intro h
    have hx : In ps (embF 0 y ps) := emb_in ps 0 y
    have hxl : embF 0 y ps < 2 ^ l := sp_lt (units_basN L).lt ((basis_same _ _).mpr (units_sp.mpr hx))
    refine ⟨embF 0 y ps, (ev_dual B hl hxl).mp fun c hc => ?_, hx, cut_emb L.nd hy⟩
    rw [D_emb ps 0 y c hp (by omega)]
    exact ev_sp h ((trace_sp _).mpr ⟨c, sp_mem hc, rfl⟩)
end
theorem dim_congr {ws us : List Nat} (S : Same ws us) : (basis ws).length = (basis us).length := by rw [basis_congr S]
theorem rank {f : Nat → Nat} (hf : ∀ a b, f (a ^^^ b) = f a ^^^ f b) (h0 : f 0 = 0) : ∀ (n : Nat) (ws : List Nat), ws.length = n → ∃ ks : List Nat, (∀ x, Sp ks x ↔ Sp ws x ∧ f x = 0) ∧ (basis (ws.map f)).length + (basis ks).length = (basis ws).length
  | 0, ws, h => by
    have : ws = [] := List.length_eq_zero_iff.mp h
    subst this
    exact ⟨[], fun x => ⟨fun z => ⟨z, by rw [show x = 0 from z]; exact h0⟩, fun z => z.1⟩, rfl⟩
  | n + 1, ws, h => by
    obtain ⟨us, w, rfl⟩ : ∃ us w, ws = us ++ [w] := ⟨ws.dropLast, ws.getLast (by intro z; subst z; simp at h), (List.dropLast_concat_getLast _).symm⟩
    have hl : us.length = n := by
      rw [List.length_append, List.length_singleton] at h
      omega
    obtain ⟨ks, h1, h2⟩ := rank hf h0 n us hl
    have sp1 : ∀ x, Sp (us ++ [w]) x ↔ Sp us x ∨ Sp us (x ^^^ w) := fun x => by
      rw [sp_app]
      constructor
      · rintro ⟨a, b, ha, hb, rfl⟩
        rcases hb with hb | hb
        · left
          rw [show b = 0 from hb, Nat.xor_zero]
          exact ha
        · right
          rw [xor_eq_zero hb, xor_cancel]
          exact ha
      · rintro (h | h)
        · exact ⟨x, 0, h, .inl rfl, (Nat.xor_zero x).symm⟩
        · exact ⟨x ^^^ w, w, h, .inr (Nat.xor_self w), (xor_cancel x w).symm⟩
    rw [List.map_append, List.map_singleton]
    by_cases hw : Sp us w
    · refine ⟨ks, fun x => ?_, ?_⟩
      · rw [h1, sp1]
        constructor
        · rintro ⟨a, b⟩; exact ⟨.inl a, b⟩
        · rintro ⟨a | a, b⟩
          · exact ⟨a, b⟩
          · refine ⟨?_, b⟩
            have := sp_xor a hw
            rwa [xor_cancel] at this
      · rw [dim_old hw, dim_old ((map_sp hf h0).mpr ⟨w, hw, rfl⟩)]
        exact h2
    · by_cases hfw : Sp (us.map f) (f w)
      · obtain ⟨v, hv, hfv⟩ := (map_sp hf h0).mp hfw
        have hkw : ¬ Sp ks (w ^^^ v) := fun z => by
          have := sp_xor ((h1 _).mp z).1 hv
          rw [xor_cancel] at this
          exact hw this
        refine ⟨ks ++ [w ^^^ v], fun x => ?_, ?_⟩
        · have spk : Sp (ks ++ [w ^^^ v]) x ↔ Sp ks x ∨ Sp ks (x ^^^ (w ^^^ v)) := by
            rw [sp_app]
            constructor
            · rintro ⟨a, b, ha, hb, rfl⟩
              rcases hb with hb | hb
              · left
                rw [show b = 0 from hb, Nat.xor_zero]
                exact ha
              · right
                rw [xor_eq_zero hb, xor_cancel]
                exact ha
            · rintro (h | h)
              · exact ⟨x, 0, h, .inl rfl, (Nat.xor_zero x).symm⟩
              · exact ⟨x ^^^ (w ^^^ v), w ^^^ v, h, .inr (Nat.xor_self _), (xor_cancel x _).symm⟩
          have hz : f (w ^^^ v) = 0 := by rw [hf, hfv, Nat.xor_self]
          rw [spk, sp1, h1, h1]
          constructor
          · rintro (⟨a, b⟩ | ⟨a, b⟩)
            · exact ⟨.inl a, b⟩
            · constructor
              · right
                have := sp_xor a hv
                rwa [Nat.xor_assoc, Nat.xor_assoc, Nat.xor_self, Nat.xor_zero] at this
              · rw [hf, hz, Nat.xor_zero] at b
                exact b
          · rintro ⟨a | a, b⟩
            · exact .inl ⟨a, b⟩
            · right
              constructor
              · have := sp_xor a hv
                rwa [Nat.xor_assoc] at this
              · rw [hf, b, hz]; rfl
        · rw [dim_new hw, dim_old hfw, dim_new hkw]
          omega
      · refine ⟨ks, fun x => ?_, ?_⟩
        · rw [h1, sp1]
          constructor
          · rintro ⟨a, b⟩; exact ⟨.inl a, b⟩
          · rintro ⟨a | a, b⟩
            · exact ⟨a, b⟩
            · exfalso
              apply hfw
              refine (map_sp hf h0).mpr ⟨x ^^^ w, a, ?_⟩
              rw [hf, b, Nat.zero_xor]
        · rw [dim_new hw, dim_new hfw]
          omega
end Gf
set_option Elab.async false
set_option linter.all false
set_option maxRecDepth 100000
set_option maxHeartbeats 1000000
namespace Gf
theorem min_bit {w b : Nat} (hb : b ≠ 0) : min w (w ^^^ b) = if w.testBit b.log2 then w ^^^ b else w := by
  have hh := tb_head hb
  have ha : ∀ j, b.log2 < j → b.testBit j = false := fun j hj => tb_above hj
  cases q : w.testBit b.log2 with
  | true =>
    rw [if_pos rfl]
    have : w ^^^ b < w := lt_of_tb b.log2 (by rw [Nat.testBit_xor, q, hh]; rfl) q fun j hj => by rw [Nat.testBit_xor, ha j hj, Bool.xor_false]
    omega
  | false =>
    rw [if_neg Bool.false_ne_true]
    have : w < w ^^^ b := lt_of_tb b.log2 q (by rw [Nat.testBit_xor, q, hh]; rfl) fun j hj => by rw [Nat.testBit_xor, ha j hj, Bool.xor_false]
    omega
def lbStep (bs : List Nat) (w : Nat) : List Nat := if rem (desc bs) w = 0 then bs else more bs (rem (desc bs) w)
structure LB (bs ws : List Nat) : Prop where
  red : Red bs
  lt : ∀ b ∈ bs, b < 2 ^ 24
  same : Same bs ws
theorem desc_red {bs : List Nat} (R : Red bs) : Red (desc bs) := R.perm (desc_perm bs)
theorem desc_bas {bs : List Nat} (R : Red bs) : Bas (desc bs) := ⟨desc_red R, desc_sorted R.nd⟩
theorem LB.nil : LB [] [] := ⟨⟨fun _ h => (nomatch h), fun _ h => (nomatch h), List.nodup_nil⟩, fun _ h => (nomatch h), Same.refl []⟩
theorem rem_lt {bs : List Nat} {w k : Nat} (hb : ∀ b ∈ bs, b < 2 ^ k) (hw : w < 2 ^ k) : rem bs w < 2 ^ k := by
  have h1 := sp_lt hb (rem_sp bs w)
  have := Nat.xor_lt_two_pow h1 hw
  rwa [xor_cancel] at this
theorem clr_lt {r b k : Nat} (hr : r < 2 ^ k) (hb : b < 2 ^ k) : clr r b < 2 ^ k := by
  unfold clr
  split
  · exact Nat.xor_lt_two_pow hb hr
  · exact hb
theorem LB.step {bs pre : List Nat} (L : LB bs pre) {w : Nat} (hw : w < 2 ^ 24) : LB (lbStep bs w) (pre ++ [w]) := by
  have R2 := desc_red L.red
  have S2 : Same (desc bs) bs := same_perm (desc_perm bs)
  have add : Same (w :: bs) (pre ++ [w]) := (L.same.cons w).trans (same_perm (List.perm_append_comm (l₁ := [w]) (l₂ := pre)))
  unfold lbStep
  split
  · rename_i z
    have hs : Sp bs w := (S2 w).mp ((rem_zero R2 w).mp z)
    refine ⟨L.red, L.lt, Same.trans ?_ add⟩
    refine same_of (fun b hb => sp_mem (List.mem_cons_of_mem _ hb)) fun b hb => ?_
    rcases List.mem_cons.mp hb with rfl | hb
    · exact hs
    · exact sp_mem hb
  · rename_i z
    have hb24 : ∀ b ∈ desc bs, b < 2 ^ 24 := fun b hb => L.lt b ((desc_perm bs).mem_iff.mp hb)
    have hr := rem_lt hb24 hw
    have hoff : ∀ b ∈ bs, (rem (desc bs) w).testBit b.log2 = false := fun b hb => rem_head R2 w b ((desc_perm bs).mem_iff.mpr hb)
    refine ⟨more_red L.red z hoff, fun b hb => ?_, (more_same w ((S2 _).mp (rem_sp _ w))).trans add⟩
    rcases List.mem_append.mp hb with q | q
    · obtain ⟨c, hc, rfl⟩ := List.mem_map.mp q
      exact clr_lt hr (L.lt c hc)
    · rw [List.mem_singleton.mp q]
      exact hr
theorem LB.run : ∀ {ws bs pre : List Nat}, LB bs pre → (∀ w ∈ ws, w < 2 ^ 24) → LB (ws.foldl lbStep bs) (pre ++ ws)
  | [], bs, pre, L, _ => by rw [List.append_nil]; exact L
  | w :: ws, bs, pre, L, h => by
    have := LB.run (L.step (h w List.mem_cons_self)) (fun x hx => h x (List.mem_cons_of_mem _ hx))
    rwa [List.append_assoc] at this
theorem lb_basis {ws : List Nat} (h : ∀ w ∈ ws, w < 2 ^ 24) : desc (ws.foldl lbStep []) = basis ws := by
  have L := LB.run LB.nil h
  rw [List.nil_append] at L
  exact basis_eq (desc_bas L.red) ((same_perm (desc_perm _)).trans L.same)
theorem LB.desc {bs ws : List Nat} (L : LB bs ws) : BasN 24 (desc bs) := ⟨desc_bas L.red, fun b hb => L.lt b ((desc_perm bs).mem_iff.mp hb)⟩
theorem LB.len {bs ws : List Nat} (L : LB bs ws) : bs.length + 1 ≤ 2 ^ 24 := by
  have := L.desc.len
  rwa [(desc_perm bs).length_eq] at this
theorem clr_text {r b : Nat} (hb : b ≠ 0) (hr : r ≠ 0) (h : r.testBit b.log2 = false) : (if (decide (r < b) && b.testBit r.log2) = true then min b (b ^^^ r) else b) = clr r b := by
  unfold clr
  rw [min_bit hr]
  cases q : b.testBit r.log2 with
  | false => simp
  | true =>
    have : r < b := by
      apply Nat.lt_of_not_le
      intro hle
      have h1 : b.log2 = r.log2 := by
        have h2 := tb_le q
        have h3 : b.log2 ≤ r.log2 := (Nat.le_log2 hr).mpr (Nat.le_trans (Nat.log2_self_le hb) hle)
        omega
      rw [h1, tb_head hr] at h
      cases h
    simp [this]
theorem ones_add : ∀ (a d w : Nat), ones (a + d) w = ones a w + ones d (w / 2 ^ a)
  | 0, d, w => by rw [Nat.zero_add, Nat.pow_zero, Nat.div_one]; show _ = 0 + _; rw [Nat.zero_add]
  | a + 1, d, w => by
    rw [show a + 1 + d = (a + d) + 1 by omega]
    show w % 2 + ones (a + d) (w / 2) = (w % 2 + ones a (w / 2)) + _
    rw [ones_add a d, Nat.pow_succ, Nat.mul_comm, ← Nat.div_div_eq_div_mul]
    omega
theorem ones_filter (w : Nat) : ∀ k, ((List.range k).filter fun p => w.testBit p).length = ones k w
  | 0 => rfl
  | k + 1 => by
    rw [List.range_succ, List.filter_append, List.length_append, ones_filter w k, ones_add k 1 w]
    congr 1
    show _ = w / 2 ^ k % 2 + 0
    cases q : w.testBit k with
    | true =>
      have : w / 2 ^ k % 2 = 1 := by rw [Nat.testBit_eq_decide_div_mod_eq] at q; exact of_decide_eq_true q
      simp [q, this]
    | false =>
      have : w / 2 ^ k % 2 ≠ 1 := by rw [Nat.testBit_eq_decide_div_mod_eq] at q; exact of_decide_eq_false q
      have : w / 2 ^ k % 2 = 0 := by omega
      simp [q, this]
theorem ones_lt {w k : Nat} (h : w < 2 ^ k) (hk : k ≤ 24) : ones k w = ones 24 w := by
  rw [show 24 = k + (24 - k) by omega, ones_add, Nat.div_eq_of_lt h, ones_zero]
  rfl
def sumX (ws : List Nat) : Nat := ws.foldl (· ^^^ ·) 0
theorem sumX_acc : ∀ (ws : List Nat) (a : Nat), ws.foldl (· ^^^ ·) a = a ^^^ ws.foldl (· ^^^ ·) 0
  | [], a => (Nat.xor_zero a).symm
  | w :: r, a => by
    rw [List.foldl_cons, List.foldl_cons, sumX_acc r, sumX_acc r (0 ^^^ w), Nat.zero_xor, Nat.xor_assoc]
theorem sumX_cons (w : Nat) (ws : List Nat) : sumX (w :: ws) = w ^^^ sumX ws := by
  unfold sumX
  rw [List.foldl_cons, Nat.zero_xor, sumX_acc]
theorem sumX_pow : ∀ ps : List Nat, sumX (ps.map (2 ^ ·)) = xorP ps
  | [] => rfl
  | p :: ps => by
    rw [List.map_cons, sumX_cons, sumX_pow ps]
    rfl
theorem chk_text {f : Nat} : ∀ (cs : List Nat), (((cs.map Nat.log2).zip cs).filter fun q => q.2.testBit f).map (fun q => 2 ^ q.1) = ((cs.filter fun b => b.testBit f).map Nat.log2).map (2 ^ ·)
  | [] => rfl
  | c :: cs => by
    rw [List.map_cons, List.zip_cons_cons, List.filter_cons, List.filter_cons]
    cases c.testBit f with
    | true => simp only [if_true, List.map_cons]; rw [chk_text cs]
    | false => simp only [Bool.false_eq_true, if_false]; exact chk_text cs
end Gf
set_option Elab.async false
set_option linter.all false
set_option maxRecDepth 100000
set_option maxHeartbeats 1000000
namespace Gf
theorem three_bit (k i : Nat) : (3 * 2 ^ k).testBit i = (decide (i = k) || decide (i = k + 1)) := by
  rw [Nat.mul_comm, Nat.testBit_two_pow_mul]
  by_cases h : k ≤ i
  · obtain ⟨j, rfl⟩ : ∃ j, i = k + j := ⟨i - k, by omega⟩
    rw [decide_eq_true (show k + j ≥ k by omega), Bool.true_and, Nat.add_sub_cancel_left]
    match j with
    | 0 => simp <;> decide
    | 1 => simp <;> decide
    | j + 2 =>
      rw [decide_eq_false (show ¬ k + (j + 2) = k by omega), decide_eq_false (show ¬ k + (j + 2) = k + 1 by omega), Nat.testBit_succ, Nat.testBit_succ]
      exact Nat.zero_testBit j
  · rw [decide_eq_false (show ¬ i ≥ k by omega), decide_eq_false (show ¬ i = k by omega), decide_eq_false (show ¬ i = k + 1 by omega)]
    rfl
theorem three_log (k : Nat) : (3 * 2 ^ k).log2 = k + 1 := log2_of (by rw [three_bit]; simp) fun i hi => by
  rw [three_bit, decide_eq_false (by omega), decide_eq_false (by omega)]
  rfl
def own0 (l : Nat) : List Nat := ((List.range (l / 2)).map fun a => 3 * 2 ^ (2 * a)).reverse
theorem own0_basN {l : Nat} : BasN l (own0 l) := by
  have mem : ∀ b ∈ own0 l, ∃ a, a < l / 2 ∧ b = 3 * 2 ^ (2 * a) := fun b hb => by
    obtain ⟨a, ha, rfl⟩ := List.mem_map.mp (List.mem_reverse.mp hb)
    exact ⟨a, List.mem_range.mp ha, rfl⟩
  have ord : (own0 l).Pairwise (· > ·) := by
    unfold own0
    rw [List.pairwise_reverse, List.pairwise_map]
    refine List.pairwise_lt_range.imp fun h => ?_
    exact Nat.mul_lt_mul_of_pos_left (Nat.pow_lt_pow_right (by decide) (by omega)) (by decide)
  refine ⟨⟨⟨fun b hb => ?_, fun b hb c hc h => ?_, ord.imp fun h => Nat.ne_of_gt h⟩, ord⟩, fun b hb => ?_⟩
  · obtain ⟨a, _, rfl⟩ := mem b hb
    have := Nat.two_pow_pos (2 * a)
    omega
  · obtain ⟨a, _, rfl⟩ := mem b hb
    obtain ⟨a', _, rfl⟩ := mem c hc
    rw [three_log, three_bit] at h
    have : a = a' := by
      by_cases h1 : 2 * a + 1 = 2 * a'
      · omega
      · rw [decide_eq_false h1, Bool.false_or] at h
        have := of_decide_eq_true h
        omega
    rw [this]
  · obtain ⟨a, ha, rfl⟩ := mem b hb
    apply Nat.lt_pow_two_of_testBit
    intro i hi
    rw [three_bit, decide_eq_false (by omega), decide_eq_false (by omega)]
    rfl
theorem bas_own {bs : List Nat} (B : Bas bs) : basis bs = bs := (basis_eq B (Same.refl bs)).symm
def restP (l : Nat) (ps : List Nat) : List Nat := (List.range l).filter fun p => !ps.contains p
theorem rest_mem {l p : Nat} {ps : List Nat} : p ∈ restP l ps ↔ p < l ∧ p ∉ ps := by
  unfold restP
  rw [List.mem_filter, List.mem_range]
  simp
theorem rest_lot (l : Nat) (ps : List Nat) : Lot l (restP l ps) := ⟨List.pairwise_lt_range.sublist List.filter_sublist, fun p hp => (rest_mem.mp hp).1⟩
theorem cut_none {ps : List Nat} {x : Nat} : cutF 0 x ps = 0 ↔ ∀ p ∈ ps, x.testBit p = false := by
  constructor
  · intro h p hp
    obtain ⟨k, hk, e⟩ := List.getElem_of_mem hp
    have := cut_bit ps 0 x k
    rw [h, Nat.zero_testBit, if_pos (Nat.zero_le _), Nat.sub_zero, List.getElem?_eq_getElem hk, e] at this
    exact this.symm
  · intro h
    apply eq_zero_of
    intro j
    rw [cut_bit, if_pos (Nat.zero_le _), Nat.sub_zero]
    split
    · rename_i p e
      exact h p (List.mem_of_getElem? e)
    · rfl
theorem lt_in {l x i : Nat} (hx : x < 2 ^ l) (h : x.testBit i = true) : i < l := by
  apply Nat.lt_of_not_le
  intro hle
  rw [Nat.testBit_lt_two_pow (Nat.lt_of_lt_of_le hx (Nat.pow_le_pow_right (by decide) hle))] at h
  cases h
theorem in_rest {l x : Nat} {ps : List Nat} (hx : x < 2 ^ l) : In (restP l ps) x ↔ cutF 0 x ps = 0 := by
  rw [cut_none]
  constructor
  · intro h p hp
    cases q : x.testBit p with
    | false => rfl
    | true => exact absurd hp (rest_mem.mp (h p q)).2
  · intro h i hi
    refine rest_mem.mpr ⟨lt_in hx hi, fun z => ?_⟩
    rw [h i z] at hi
    cases hi
section
variable {l : Nat} {bs ps : List Nat}
theorem within_dim (B : BasN l bs) (L : Lot l ps) (hl : l ≤ 24) : (partB l bs ps).length = (withinB l bs ps).length := by
  obtain ⟨ks, h1, h2⟩ := rank (f := fun w => cutF 0 w ps) (cut_xor ps 0) (cut_zero ps 0) _ (withinB l bs ps) rfl
  have hk : basis ks = [] := by
    have : Same ks [] := fun x => ⟨fun h => ?_, fun h => by rw [show x = 0 from h]; exact sp_zero ks⟩
    · rw [basis_congr this]
      rfl
    · obtain ⟨w1, w2⟩ := (h1 x).mp h
      have hin := ((within_sp B L hl x).mp w1).2
      refine eq_zero_of fun i => ?_
      cases q : x.testBit i with
      | false => rfl
      | true =>
        have := cut_none.mp w2 i (hin i q)
        rw [this] at q
        cases q
  rw [hk, bas_own (within_basN B L).bas] at h2
  exact h2
theorem trace_dim (B : BasN l bs) (hl : l ≤ 24) : (traceB bs ps).length + (partB l bs (restP l ps)).length = bs.length := by
  obtain ⟨ks, h1, h2⟩ := rank (f := fun w => cutF 0 w ps) (cut_xor ps 0) (cut_zero ps 0) _ bs rfl
  have S : Same ks (withinB l bs (restP l ps)) := fun x => by
    rw [h1 x, within_sp B (rest_lot l ps) hl]
    constructor
    · rintro ⟨a, b⟩
      exact ⟨a, (in_rest (sp_lt B.lt a)).mpr b⟩
    · rintro ⟨a, b⟩
      exact ⟨a, (in_rest (sp_lt B.lt a)).mp b⟩
  rw [within_dim B (rest_lot l ps) hl]
  rw [basis_congr S, bas_own (within_basN B (rest_lot l ps)).bas, bas_own B.bas] at h2
  exact h2
theorem own_dim (B : BasN l bs) (L : Lot l ps) (hl : l ≤ 24) (hd : dualB l bs = bs) : 2 * (partB l bs ps).length + l = 2 * ps.length + 2 * (partB l bs (restP l ps)).length := by
  have h1 := trace_dim (ps := ps) B hl
  have h2 := dual_dim B
  rw [hd] at h2
  have h3 := dual_dim (trace_basN (bs := bs) ps)
  have h4 := part_dual B L hl
  rw [hd] at h4
  rw [← h4] at h3
  omega
theorem mem_span : ∀ (bs acc : List Nat) (v : Nat), v ∈ spanL bs acc ↔ ∃ a ∈ acc, Sp bs (v ^^^ a)
  | [], acc, v => by
    show v ∈ acc ↔ ∃ a ∈ acc, v ^^^ a = 0
    constructor
    · intro h
      exact ⟨v, h, Nat.xor_self v⟩
    · rintro ⟨a, ha, e⟩
      rw [xor_eq_zero e]
      exact ha
  | b :: bs, acc, v => by
    rw [spanL_cons, mem_span bs]
    constructor
    · rintro ⟨a, ha, h⟩
      rcases List.mem_append.mp ha with z | z
      · exact ⟨a, z, .inl h⟩
      · obtain ⟨c, hc, rfl⟩ := List.mem_map.mp z
        refine ⟨c, hc, .inr ?_⟩
        rwa [Nat.xor_assoc]
    · rintro ⟨a, ha, h | h⟩
      · exact ⟨a, List.mem_append_left _ ha, h⟩
      · refine ⟨a ^^^ b, List.mem_append_right _ (List.mem_map.mpr ⟨a, ha, rfl⟩), ?_⟩
        rwa [← Nat.xor_assoc]
theorem mem_span0 {v : Nat} : v ∈ spanL bs [0] ↔ Sp bs v := by
  rw [mem_span]
  constructor
  · rintro ⟨a, ha, h⟩
    rw [List.mem_singleton.mp ha, Nat.xor_zero] at h
    exact h
  · intro h
    exact ⟨0, List.mem_singleton.mpr rfl, by rwa [Nat.xor_zero]⟩
theorem span_len : ∀ (bs acc : List Nat), (spanL bs acc).length = acc.length * 2 ^ bs.length
  | [], acc => by show acc.length = acc.length * 1; rw [Nat.mul_one]
  | b :: bs, acc => by
    rw [spanL_cons, span_len bs, List.length_append, List.length_map, List.length_cons, Nat.pow_succ, Nat.add_mul]
    have e : acc.length * (2 ^ bs.length * 2) = acc.length * 2 ^ bs.length * 2 := (Nat.mul_assoc ..).symm
    omega
theorem span_nodup (B : Bas bs) : (spanL bs [0]).Nodup := by
  have asc : (spanL bs.reverse [0]).Pairwise (· < ·) := by
    refine spanL_asc bs.reverse (ds := []) (by rw [List.append_nil]; exact B.red.perm (List.reverse_perm _)) ?_ (fun a ha => by rw [List.mem_singleton.mp ha]; rfl) (List.pairwise_singleton _ _)
    rw [List.reverse_nil, List.nil_append, List.pairwise_reverse]
    refine List.Pairwise.imp_of_mem ?_ B.ord
    intro a b ha hb hab
    have h0 : a ≠ 0 := B.red.pos a ha
    have h1 : b.log2 ≤ a.log2 := (Nat.le_log2 h0).mpr (Nat.le_trans (Nat.log2_self_le (B.red.pos b hb)) (Nat.le_of_lt hab))
    have h2 : b.log2 ≠ a.log2 := fun z => by
      have q := tb_head h0
      rw [← z] at q
      have := B.red.one b hb a ha q
      omega
    omega
  exact (spanL_perm (List.reverse_perm bs) (List.Perm.refl [0])).nodup_iff.mp (asc.imp fun h => Nat.ne_of_lt h)
def wordsIn (l : Nat) (bs ps : List Nat) : List Nat := (sortN (spanL bs [0])).filter fun w => decide (w &&& xorP (restP l ps) = 0)
theorem in_outer (L : Lot l ps) {w : Nat} (hw : w < 2 ^ l) : w &&& xorP (restP l ps) = 0 ↔ In ps w := by
  have nd : (restP l ps).Nodup := (rest_lot l ps).nd
  constructor
  · intro h i hi
    have h1 : (w &&& xorP (restP l ps)).testBit i = false := by rw [h, Nat.zero_testBit]
    rw [Nat.testBit_and, hi, Bool.true_and, xorP_bit nd] at h1
    apply Classical.byContradiction
    intro z
    have : i ∈ restP l ps := rest_mem.mpr ⟨lt_in hw hi, z⟩
    rw [List.contains_iff_mem.mpr this] at h1
    cases h1
  · intro h
    apply eq_zero_of
    intro i
    rw [Nat.testBit_and, xorP_bit nd]
    cases q : w.testBit i with
    | false => rfl
    | true =>
      rw [Bool.true_and, Bool.eq_false_iff]
      intro z
      exact (rest_mem.mp (List.contains_iff_mem.mp z)).2 (h i q)
theorem words_mem (B : BasN l bs) (L : Lot l ps) (hl : l ≤ 24) {w : Nat} : w ∈ wordsIn l bs ps ↔ Sp (withinB l bs ps) w := by
  unfold wordsIn
  rw [List.mem_filter, (sortN_perm _).mem_iff, mem_span0, within_sp B L hl]
  constructor
  · rintro ⟨a, b⟩
    exact ⟨a, (in_outer L (sp_lt B.lt a)).mp (of_decide_eq_true b)⟩
  · rintro ⟨a, b⟩
    exact ⟨a, decide_eq_true ((in_outer L (sp_lt B.lt a)).mpr b)⟩
theorem words_len (B : BasN l bs) (L : Lot l ps) (hl : l ≤ 24) : (wordsIn l bs ps).length = 2 ^ (partB l bs ps).length := by
  have n1 : (wordsIn l bs ps).Nodup := List.Pairwise.filter _ ((sortN_perm _).nodup_iff.mpr (span_nodup B.bas))
  have n2 := span_nodup (within_basN B L).bas
  have p : (wordsIn l bs ps).Perm (spanL (withinB l bs ps) [0]) := (List.perm_ext_iff_of_nodup n1 n2).mpr fun w => by rw [words_mem B L hl, mem_span0]
  rw [p.length_eq, span_len, within_dim B L hl, List.length_singleton, Nat.one_mul]
theorem words_basis (B : BasN l bs) (L : Lot l ps) (hl : l ≤ 24) : basis ((wordsIn l bs ps).map fun w => cutF 0 w ps) = partB l bs ps := by
  unfold partB
  refine basis_congr fun y => ?_
  have S : Same (wordsIn l bs ps) (withinB l bs ps) := same_of (fun w hw => (words_mem B L hl).mp hw) fun w hw => sp_mem ((words_mem B L hl).mpr (sp_mem hw))
  rw [map_sp (cut_xor ps 0) (cut_zero ps 0), map_sp (cut_xor ps 0) (cut_zero ps 0)]
  exact ⟨fun ⟨x, a, b⟩ => ⟨x, (S x).mp a, b⟩, fun ⟨x, a, b⟩ => ⟨x, (S x).mpr a, b⟩⟩
end
end Gf
set_option Elab.async false
set_option linter.all false
set_option maxRecDepth 100000
set_option maxHeartbeats 4000000
namespace Law
open PySem PySem.Spec PyProof.Rows L2 Mi
def topS (i : Nat) : Stmt := PySem.Challenge.pw_ownchecks_k07_whole_parts_and_traces.main.body.getD i (.Pass ⟨0, 0, 0, 0⟩)
def f0 : FD := { ar := 1, sl := 1, frz := true, body := (.ret (.and (.bif .isint (.acons (.var 0) .anil)) (.not (.bif .isbool (.acons (.var 0) .anil))))) }
def f1 : FD := { ar := 3, sl := 3, frz := true, body := (.ret (.and (.call 0 (.acons (.var 0) .anil)) (.chain .le .le (.var 1) (.var 0) (.var 2)))) }
def f2 : FD := { ar := 2, sl := 2, frz := true, body := (.ret (.and (.call 0 (.acons (.var 1) .anil)) (.chain .le .lt (.int 0) (.var 1) (.bin .shl (.int 1) (.var 0))))) }
def f3 : FD := { ar := 2, sl := 3, frz := true, body := (.ret (.and (.bif .istuple (.acons (.var 1) .anil)) (.and (.cmp .le (.bif .len (.acons (.var 1) .anil)) (.gl 1)) (.bif .all (.acons (.fz (.comp [2] (.n 2) (.over (.var 1)) .noe (.call 2 (.acons (.var 0) (.acons (.var 2) .anil))))) .anil))))) }
def f4 : FD := { ar := 2, sl := 4, frz := true, body := (.seq (.ifs (.or (.not (.bif .istuple (.acons (.var 0) .anil))) (.not (.bif .all (.acons (.fz (.comp [2] (.n 2) (.over (.var 0)) .noe (.call 1 (.acons (.var 2) (.acons (.int 0) (.acons (.var 1) .anil)))))) .anil)))) (.ret (.bl false)) .skip) (.ret (.bif .all (.acons (.fz (.comp [2, 3] (.t [2, 3]) (.zip (.var 0) (.slc (.var 0) (.sm (.int 1)) .noe)) .noe (.cmp .lt (.var 2) (.var 3)))) .anil)))) }
def f5 : FD := { ar := 1, sl := 1, frz := true, body := (.ret (.bin .sub (.mth .bitlen (.var 0) .anil) (.int 1))) }
def f6 : FD := { ar := 2, sl := 2, frz := true, body := (.ret (.cmp .eq (.bin .and (.bin .shr (.var 0) (.var 1)) (.int 1)) (.int 1))) }
def f7 : FD := { ar := 1, sl := 2, frz := true, body := (.ret (.bif .sum (.acons (.fz (.comp [1] (.n 1) (.over (.var 0)) .noe (.bin .shl (.int 1) (.var 1)))) .anil))) }
def f8 : FD := { ar := 2, sl := 3, frz := true, body := (.seq (.fors (.n 2) (.over (.var 0)) (.ifs (.call 6 (.acons (.var 1) (.acons (.call 5 (.acons (.var 2) .anil)) .anil))) (.aug 1 .xor (.var 2)) .skip)) (.ret (.var 1))) }
def f9 : FD := { ar := 2, sl := 5, frz := true, body := (.seq (.set 2 (.call 8 (.acons (.var 0) (.acons (.var 1) .anil)))) (.seq (.ifs (.cmp .eq (.var 2) (.int 0)) (.ret (.var 0)) .skip) (.seq (.set 3 (.call 5 (.acons (.var 2) .anil))) (.ret (.bif .tuple (.acons (.fz (.srt true (.fz (.cat (.fz (.comp [4] (.n 4) (.over (.var 0)) .noe (.ite (.call 6 (.acons (.var 4) (.acons (.var 3) .anil))) (.bin .xor (.var 4) (.var 2)) (.var 4)))) (.fz (.disp (.acons (.var 2) .anil))))))) .anil)))))) }
def f10 : FD := { ar := 1, sl := 3, frz := true, body := (.seq (.set 1 (.tup .anil)) (.seq (.fors (.n 2) (.over (.var 0)) (.set 1 (.call 9 (.acons (.var 1) (.acons (.var 2) .anil))))) (.ret (.var 1)))) }
def f11 : FD := { ar := 1, sl := 2, frz := true, body := (.ret (.fz (.comp [1] (.n 1) (.over (.var 0)) .noe (.call 5 (.acons (.var 1) .anil))))) }
def f12 : FD := { ar := 2, sl := 4, frz := true, body := (.seq (.set 2 (.call 11 (.acons (.var 1) .anil))) (.ret (.fz (.comp [3] (.n 3) (.range (.acons (.var 0) .anil)) (.sm (.cmp .notin (.var 3) (.var 2))) (.var 3))))) }
def f13 : FD := { ar := 2, sl := 5, frz := true, body := (.seq (.set 2 (.th (.disp .anil))) (.seq (.fors (.n 3) (.over (.call 12 (.acons (.var 0) (.acons (.var 1) .anil)))) (.ex (.mth .append (.var 2) (.acons (.call 7 (.acons (.fz (.disp (.acons (.var 3) (.astar (.fz (.comp [4] (.n 4) (.over (.var 1)) (.sm (.call 6 (.acons (.var 4) (.acons (.var 3) .anil)))) (.call 5 (.acons (.var 4) .anil)))) .anil)))) .anil)) .anil)))) (.ret (.call 10 (.acons (.var 2) .anil))))) }
def f14 : FD := { ar := 3, sl := 3, frz := true, body := (.ret (.call 13 (.acons (.var 0) (.acons (.call 10 (.acons (.bin .add (.call 13 (.acons (.var 0) (.acons (.var 1) .anil))) (.call 13 (.acons (.var 0) (.acons (.var 2) .anil)))) .anil)) .anil)))) }
def f15 : FD := { ar := 1, sl := 1, frz := true, body := (.ifs (.not (.call 1 (.acons (.var 0) (.acons (.int 1) (.acons (.gl 0) .anil))))) .never .skip) }
def f16 : FD := { ar := 2, sl := 2, frz := true, body := (.ifs (.not (.call 3 (.acons (.var 0) (.acons (.var 1) .anil)))) .never .skip) }
def f17 : FD := { ar := 2, sl := 4, frz := true, body := (.ret (.call 7 (.acons (.fz (.comp [2, 3] (.t [2, 3]) (.enum (.var 1)) (.sm (.call 6 (.acons (.var 0) (.acons (.var 3) .anil)))) (.var 2))) .anil))) }
def f18 : FD := { ar := 2, sl := 3, frz := true, body := (.ret (.call 10 (.acons (.fz (.comp [2] (.n 2) (.over (.var 0)) .noe (.call 17 (.acons (.var 2) (.acons (.var 1) .anil))))) .anil))) }
def f19 : FD := { ar := 3, sl := 4, frz := true, body := (.ret (.call 14 (.acons (.var 0) (.acons (.var 1) (.acons (.call 10 (.acons (.fz (.comp [3] (.n 3) (.over (.var 2)) .noe (.bin .shl (.int 1) (.var 3)))) .anil)) .anil))))) }
def f20 : FD := { ar := 3, sl := 4, frz := true, body := (.ret (.call 10 (.acons (.fz (.comp [3] (.n 3) (.over (.call 19 (.acons (.var 0) (.acons (.var 1) (.acons (.var 2) .anil))))) .noe (.call 17 (.acons (.var 3) (.acons (.var 2) .anil))))) .anil))) }
def f21 : FD := { ar := 2, sl := 2, frz := true, body := (.ret (.mk 0 (.acons (.var 0) (.acons (.var 1) .anil)))) }
def f22 : FD := { ar := 1, sl := 1, frz := true, body := (.ifs (.not (.isown 0 (.var 0))) .never .skip) }
def f23 : FD := { ar := 2, sl := 2, frz := true, body := (.ret (.and (.cmp .ne (.var 1) (.tup .anil)) (.call 4 (.acons (.var 1) (.acons (.bin .sub (.var 0) (.int 1)) .anil))))) }
def f24 : FD := { ar := 2, sl := 2, frz := true, body := (.seq (.ex (.call 22 (.acons (.var 0) .anil))) (.ifs (.not (.call 23 (.acons (.attr (.var 0) 1) (.acons (.var 1) .anil)))) .never .skip)) }
def f25 : FD := { ar := 1, sl := 1, frz := true, body := (.seq (.ex (.call 22 (.acons (.var 0) .anil))) (.ret (.call 21 (.acons (.attr (.var 0) 1) (.acons (.call 13 (.acons (.attr (.var 0) 1) (.acons (.attr (.var 0) 0) .anil))) .anil))))) }
def f26 : FD := { ar := 2, sl := 2, frz := true, body := (.seq (.ex (.call 24 (.acons (.var 0) (.acons (.var 1) .anil)))) (.ret (.call 21 (.acons (.bif .len (.acons (.var 1) .anil)) (.acons (.call 20 (.acons (.attr (.var 0) 1) (.acons (.attr (.var 0) 0) (.acons (.var 1) .anil)))) .anil))))) }
def f27 : FD := { ar := 2, sl := 2, frz := true, body := (.seq (.ex (.call 24 (.acons (.var 0) (.acons (.var 1) .anil)))) (.ret (.call 21 (.acons (.bif .len (.acons (.var 1) .anil)) (.acons (.call 18 (.acons (.attr (.var 0) 0) (.acons (.var 1) .anil))) .anil))))) }
def f28 : FD := { ar := 2, sl := 4, frz := false, body := (.seq (.set 2 (.ite (.cmp .lt (.var 1) (.bif .len (.acons (.var 0) .anil))) (.bif .int (.acons (.sub (.var 0) (.var 1)) .anil)) (.bin .add (.bin .mul (.int 521) (.var 1)) (.int 271)))) (.seq (.set 3 (.bin .mod (.bif .int (.acons (.bif .abs (.acons (.var 2) .anil)) .anil)) (.bin .pow (.bin .pow (.int 10) (.int 57)) (.int 6)))) (.ret (.th (.disp (.acons (.bif .max2 (.acons (.int 0) (.acons (.bin .sub (.var 3) (.bin .pow (.int 10) (.int 16))) .anil))) (.acons (.bin .add (.bin .add (.bin .add (.bin .mul (.bin .mod (.bif .int (.acons (.var 3) .anil)) (.int 2147483477)) (.int 349)) (.bin .mul (.int 587) (.var 1))) (.bin .mul (.int 37) (.bif .int (.acons (.cmp .lt (.var 2) (.int 0)) .anil)))) (.int 9)) (.acons (.int 0) .anil)))))))) }
def f29 : FD := { ar := 2, sl := 5, frz := true, body := (.seq (.ifs (.cmp .gt (.sub (.var 0) (.int 0)) (.int 0)) (.seq (.set 4 (.bin .mod (.bif .int (.acons (.sub (.var 0) (.int 0)) .anil)) (.var 1))) (.seq (.sets (.var 0) (.int 0) (.bin .fdiv (.sub (.var 0) (.int 0)) (.var 1))) (.ret (.var 4)))) .skip) (.seq (.sets (.var 0) (.int 2) (.bin .add (.sub (.var 0) (.int 2)) (.int 1))) (.seq (.set 2 (.bin .mod (.bif .int (.acons (.bin .add (.sub (.var 0) (.int 1)) (.bin .mul (.int 9699713) (.sub (.var 0) (.int 2)))) .anil)) (.int 2305843009213693951))) (.seq (.set 3 (.bin .add (.bin .mul (.bin .mod (.bif .int (.acons (.bin .add (.bin .mul (.var 2) (.var 2)) (.bin .mul (.int 421) (.sub (.var 0) (.int 2)))) .anil)) (.int 2305843009213693921)) (.int 5800079)) (.var 2))) (.ret (.bin .mod (.bif .int (.acons (.bin .fdiv (.var 3) (.int 65537)) .anil)) (.var 1))))))) }
def f30 : FD := { ar := 2, sl := 2, frz := true, body := (.ret (.sub (.var 1) (.call 29 (.acons (.var 0) (.acons (.bif .len (.acons (.var 1) .anil)) .anil))))) }
def f31 : FD := { ar := 1, sl := 2, frz := true, body := (.ret (.bif .len (.acons (.fz (.comp [1] (.n 1) (.range (.acons (.mth .bitlen (.var 0) .anil) .anil)) (.sm (.cmp .eq (.bin .and (.bin .shr (.var 0) (.var 1)) (.int 1)) (.int 1))) (.int 1))) .anil))) }
def f32 : FD := { ar := 1, sl := 3, frz := true, body := (.seq (.set 1 (.int 0)) (.seq (.fors (.n 2) (.over (.var 0)) (.set 1 (.bin .xor (.var 1) (.var 2)))) (.ret (.var 1)))) }
def f33 : FD := { ar := 2, sl := 3, frz := true, body := (.seq (.fors (.n 2) (.over (.var 0)) (.set 1 (.bif .min2 (.acons (.var 1) (.acons (.bin .xor (.var 1) (.var 2)) .anil))))) (.ret (.var 1))) }
def f34 : FD := { ar := 1, sl := 5, frz := true, body := (.seq (.set 1 (.fz (.disp .anil))) (.seq (.fors (.n 2) (.over (.var 0)) (.seq (.set 3 (.call 33 (.acons (.fz (.srt true (.var 1))) (.acons (.var 2) .anil)))) (.ifs (.cmp .gt (.var 3) (.int 0)) (.set 1 (.fz (.cat (.fz (.comp [4] (.n 4) (.over (.var 1)) .noe (.ite (.and (.cmp .gt (.var 4) (.var 3)) (.cmp .eq (.bin .and (.bin .shr (.var 4) (.bin .sub (.mth .bitlen (.var 3) .anil) (.int 1))) (.int 1)) (.int 1))) (.bif .min2 (.acons (.var 4) (.acons (.bin .xor (.var 4) (.var 3)) .anil))) (.var 4)))) (.fz (.disp (.acons (.var 3) .anil)))))) .skip))) (.ret (.bif .tuple (.acons (.fz (.srt true (.var 1))) .anil))))) }
def f35 : FD := { ar := 1, sl := 4, frz := true, body := (.seq (.set 1 (.fz (.disp (.acons (.int 0) .anil)))) (.seq (.fors (.n 2) (.over (.var 0)) (.set 1 (.fz (.cat (.var 1) (.fz (.comp [3] (.n 3) (.over (.var 1)) .noe (.bin .xor (.var 3) (.var 2)))))))) (.ret (.fz (.srt false (.var 1)))))) }
def f36 : FD := { ar := 2, sl := 7, frz := true, body := (.seq (.set 2 (.fz (.comp [5] (.n 5) (.over (.var 1)) .noe (.bin .sub (.mth .bitlen (.var 5) .anil) (.int 1))))) (.seq (.set 3 (.th (.disp .anil))) (.seq (.fors (.n 4) (.range (.acons (.var 0) .anil)) (.ifs (.cmp .notin (.var 4) (.var 2)) (.ex (.mth .append (.var 3) (.acons (.call 32 (.acons (.fz (.cat (.fz (.disp (.acons (.bin .shl (.int 1) (.var 4)) .anil))) (.fz (.comp [6, 5] (.t [6, 5]) (.zip (.var 2) (.var 1)) (.sm (.cmp .eq (.bin .and (.bin .shr (.var 5) (.var 4)) (.int 1)) (.int 1))) (.bin .shl (.int 1) (.var 6)))))) .anil)) .anil))) .skip)) (.ret (.call 34 (.acons (.var 3) .anil)))))) }
def f37 : FD := { ar := 3, sl := 4, frz := true, body := (.ret (.bif .tuple (.acons (.fz (.comp [3] (.n 3) (.range (.acons (.call 29 (.acons (.var 0) (.acons (.bin .add (.var 2) (.int 1)) .anil))) .anil)) .noe (.call 29 (.acons (.var 0) (.acons (.bin .shl (.int 1) (.var 1)) .anil))))) .anil))) }
def f38 : FD := { ar := 2, sl := 5, frz := true, body := (.seq (.set 2 (.fz (.comp [4] (.n 4) (.over (.var 0)) (.sm (.cmp .eq (.bin .mod (.call 31 (.acons (.bin .and (.var 4) (.var 1)) .anil)) (.int 2)) (.int 1))) (.var 4)))) (.seq (.set 3 (.fz (.comp [4] (.n 4) (.over (.var 0)) (.sm (.cmp .eq (.bin .mod (.call 31 (.acons (.bin .and (.var 4) (.var 1)) .anil)) (.int 2)) (.int 0))) (.var 4)))) (.ret (.call 34 (.acons (.fz (.cat (.fz (.cat (.var 3) (.fz (.comp [4] (.n 4) (.over (.slc (.var 2) (.sm (.int 1)) .noe)) .noe (.bin .xor (.var 4) (.sub (.var 2) (.int 0))))))) (.fz (.disp (.acons (.var 1) .anil))))) .anil))))) }
def f39 : FD := { ar := 3, sl := 7, frz := true, body := (.seq (.set 3 (.bif .tuple (.acons (.rev (.fz (.comp [6] (.n 6) (.range (.acons (.bin .fdiv (.var 1) (.int 2)) .anil)) .noe (.bin .shl (.int 3) (.bin .mul (.int 2) (.var 6)))))) .anil))) (.seq (.fors (.n 4) (.range (.acons (.var 2) .anil)) (.seq (.set 5 (.call 29 (.acons (.var 0) (.acons (.bin .shl (.int 1) (.var 1)) .anil)))) (.seq (.set 5 (.ite (.cmp .eq (.bin .mod (.call 31 (.acons (.var 5) .anil)) (.int 2)) (.int 0)) (.var 5) (.bin .xor (.var 5) (.int 1)))) (.set 3 (.ite (.cmp .gt (.call 33 (.acons (.var 3) (.acons (.var 5) .anil))) (.int 0)) (.call 38 (.acons (.var 3) (.acons (.var 5) .anil))) (.var 3)))))) (.ret (.var 3)))) }
def f40 : FD := { ar := 2, sl := 4, frz := true, body := (.seq (.set 2 (.fz (.comp [3] (.n 3) (.range (.acons (.var 1) .anil)) (.sm (.cmp .eq (.call 29 (.acons (.var 0) (.acons (.int 2) .anil))) (.int 0))) (.var 3)))) (.ret (.ite (.cmp .ne (.var 2) (.fz (.disp .anil))) (.bif .tuple (.acons (.var 2) .anil)) (.tup (.acons (.call 29 (.acons (.var 0) (.acons (.var 1) .anil))) .anil))))) }
def f41 : FD := { ar := 2, sl := 4, frz := true, body := (.ret (.bif .sum (.acons (.fz (.comp [2, 3] (.t [2, 3]) (.enum (.var 1)) (.sm (.cmp .eq (.bin .and (.bin .shr (.var 0) (.var 3)) (.int 1)) (.int 1))) (.bin .shl (.int 1) (.var 2)))) .anil))) }
def f42 : FD := { ar := 1, sl := 13, frz := true, body := (.seq (.set 1 (.call 30 (.acons (.var 0) (.acons (.fz (.disp (.acons (.int 1) (.acons (.int 2) (.acons (.int 4) (.acons (.int 7) (.acons (.int 8) (.acons (.int 10) (.acons (.int 16) (.acons (.int 24) .anil)))))))))) .anil)))) (.seq (.set 2 (.call 34 (.acons (.call 37 (.acons (.var 0) (.acons (.var 1) (.acons (.var 1) .anil)))) .anil))) (.seq (.ifs (.and (.cmp .eq (.bin .mod (.var 1) (.int 2)) (.int 0)) (.cmp .eq (.call 29 (.acons (.var 0) (.acons (.int 2) .anil))) (.int 0))) (.set 2 (.call 39 (.acons (.var 0) (.acons (.var 1) (.acons (.call 29 (.acons (.var 0) (.acons (.int 6) .anil))) .anil))))) .skip) (.seq (.par [6, 7] (.acons (.mk 0 (.acons (.var 1) (.acons (.var 2) .anil))) (.acons (.call 40 (.acons (.var 0) (.acons (.var 1) .anil))) .anil))) (.seq (.set 3 (.bif .tuple (.acons (.fz (.comp [12] (.n 12) (.range (.acons (.var 1) .anil)) (.sm (.cmp .notin (.var 12) (.var 7))) (.var 12))) .anil))) (.seq (.par [8, 9] (.acons (.call 26 (.acons (.var 6) (.acons (.var 7) .anil))) (.acons (.call 27 (.acons (.var 6) (.acons (.var 7) .anil))) .anil))) (.seq (.ifs (.or (.cmp .ne (.tup (.acons (.attr (.var 8) 2) (.acons (.attr (.var 9) 2) .anil))) (.tup (.acons (.bif .len (.acons (.var 7) .anil)) (.acons (.bif .len (.acons (.var 7) .anil)) .anil)))) (.cmp .ne (.attr (.var 9) 3) (.call 34 (.acons (.fz (.comp [11] (.n 11) (.over (.var 2)) .noe (.call 41 (.acons (.var 11) (.acons (.var 7) .anil))))) .anil)))) (.ret (.bl false)) .skip) (.seq (.ifs (.cmp .ne (.attr (.var 8) 3) (.call 36 (.acons (.bif .len (.acons (.var 7) .anil)) (.acons (.call 34 (.acons (.fz (.comp [11] (.n 11) (.over (.call 36 (.acons (.var 1) (.acons (.var 2) .anil)))) .noe (.call 41 (.acons (.var 11) (.acons (.var 7) .anil))))) .anil)) .anil)))) (.ret (.bl false)) .skip) (.seq (.ifs (.or (.ocmp true (.call 25 (.acons (.var 8) .anil)) (.call 27 (.acons (.call 25 (.acons (.var 6) .anil)) (.acons (.var 7) .anil)))) (.ocmp true (.call 25 (.acons (.var 9) .anil)) (.call 26 (.acons (.call 25 (.acons (.var 6) .anil)) (.acons (.var 7) .anil))))) (.ret (.bl false)) .skip) (.seq (.ifs (.cmp .ne (.var 3) (.tup .anil)) (.seq (.set 10 (.call 26 (.acons (.var 6) (.acons (.var 3) .anil)))) (.seq (.ifs (.cmp .ne (.bin .add (.attr (.var 9) 4) (.attr (.var 10) 4)) (.attr (.var 6) 4)) (.ret (.bl false)) .skip) (.ifs (.and (.ocmp false (.call 25 (.acons (.var 6) .anil)) (.var 6)) (.cmp .ne (.bin .mul (.int 2) (.bin .sub (.attr (.var 8) 4) (.attr (.var 10) 4))) (.bin .sub (.bin .mul (.int 2) (.bif .len (.acons (.var 7) .anil))) (.var 1)))) (.ret (.bl false)) .skip))) .skip) (.seq (.ifs (.cmp .gt (.bif .len (.acons (.var 2) .anil)) (.int 8)) (.ret (.bl true)) .skip) (.seq (.set 4 (.bif .sum (.acons (.fz (.comp [12] (.n 12) (.over (.var 3)) .noe (.bin .shl (.int 1) (.var 12)))) .anil))) (.seq (.set 5 (.fz (.comp [11] (.n 11) (.over (.call 35 (.acons (.var 2) .anil))) (.sm (.cmp .eq (.bin .and (.var 11) (.var 4)) (.int 0))) (.call 41 (.acons (.var 11) (.acons (.var 7) .anil)))))) (.ret (.and (.cmp .eq (.attr (.var 8) 3) (.call 34 (.acons (.var 5) .anil))) (.cmp .eq (.bin .shl (.int 1) (.attr (.var 8) 4)) (.bif .len (.acons (.var 5) .anil)))))))))))))))))) }
def f43 : FD := { ar := 1, sl := 6, frz := true, body := (.seq (.fors (.n 1) (.range (.acons (.bif .max2 (.acons (.int 1) (.acons (.bif .min2 (.acons (.int 4) (.acons (.bif .len (.acons (.var 0) .anil)) .anil))) .anil))) .anil)) (.seq (.set 4 (.call 28 (.acons (.var 0) (.acons (.var 1) .anil)))) (.fors (.n 5) (.range (.acons (.int 6) .anil)) (.ifs (.not (.call 42 (.acons (.var 4) .anil))) (.ret (.bl false)) .skip)))) (.seq (.set 2 (.mk 0 (.acons (.int 8) (.acons (.tup (.acons (.int 15) (.acons (.int 51) (.acons (.int 85) (.acons (.int 150) .anil))))) .anil)))) (.seq (.set 3 (.fz (.disp (.acons (.attr (.call 26 (.acons (.var 2) (.acons (.tup (.acons (.int 0) (.acons (.int 1) (.acons (.int 2) (.acons (.int 3) .anil))))) .anil))) 3) (.acons (.attr (.call 27 (.acons (.var 2) (.acons (.tup (.acons (.int 0) (.acons (.int 1) (.acons (.int 2) (.acons (.int 3) .anil))))) .anil))) 3) (.acons (.attr (.call 26 (.acons (.var 2) (.acons (.tup (.acons (.int 0) (.acons (.int 1) (.acons (.int 7) .anil)))) .anil))) 3) (.acons (.attr (.call 27 (.acons (.var 2) (.acons (.tup (.acons (.int 0) (.acons (.int 1) (.acons (.int 7) .anil)))) .anil))) 3) .anil))))))) (.seq (.ifs (.cmp .ne (.var 3) (.fz (.disp (.acons (.tup (.acons (.int 15) .anil)) (.acons (.tup (.acons (.int 9) (.acons (.int 5) (.acons (.int 3) .anil)))) (.acons (.tup .anil) (.acons (.tup (.acons (.int 4) (.acons (.int 2) (.acons (.int 1) .anil)))) .anil))))))) (.ret (.bl false)) .skip) (.seq (.ifs (.cmp .ne (.attr (.call 26 (.acons (.mk 0 (.acons (.int 3) (.acons (.tup (.acons (.int 5) (.acons (.int 3) .anil))) .anil))) (.acons (.tup (.acons (.int 1) (.acons (.int 2) .anil))) .anil))) 3) (.tup (.acons (.int 3) .anil))) (.ret (.bl false)) .skip) (.ret (.and (.cmp .eq (.attr (.call 27 (.acons (.mk 0 (.acons (.int 5) (.acons (.tup (.acons (.int 24) .anil)) .anil))) (.acons (.tup (.acons (.int 4) .anil)) .anil))) 3) (.tup (.acons (.int 1) .anil))) (.cmp .eq (.attr (.call 26 (.acons (.mk 0 (.acons (.int 5) (.acons (.tup (.acons (.int 24) (.acons (.int 3) .anil))) .anil))) (.acons (.tup (.acons (.int 1) (.acons (.int 3) (.acons (.int 4) .anil)))) .anil))) 3) (.tup (.acons (.int 6) .anil)))))))))) }
def f44 : FD := { ar := 3, sl := 3, frz := true, body := (.seq (.ex (.call 15 (.acons (.var 1) .anil))) (.seq (.ex (.call 16 (.acons (.var 1) (.acons (.var 2) .anil)))) (.parf 0 [1, 0] (.acons (.var 1) (.acons (.call 10 (.acons (.var 2) .anil)) .anil))))) }
def f45 : FD := { ar := 1, sl := 1, frz := true, body := (.ret (.attr (.var 0) 1)) }
def f46 : FD := { ar := 1, sl := 1, frz := true, body := (.ret (.attr (.var 0) 0)) }
def f47 : FD := { ar := 1, sl := 1, frz := true, body := (.ret (.bif .len (.acons (.attr (.var 0) 0) .anil))) }
def f48 : FD := { ar := 2, sl := 2, frz := true, body := (.seq (.ifs (.not (.isown 0 (.var 1))) (.ret (.bl false)) .skip) (.ret (.and (.cmp .eq (.attr (.var 0) 1) (.attr (.var 1) 1)) (.cmp .eq (.attr (.var 0) 0) (.attr (.var 1) 0))))) }
def f49 : FD := { ar := 1, sl := 1, frz := true, body := .never }
def tab : List TC := [⟨f0, Str.ofString "is_whole", Str.ofString "is_whole", topS 9, .mod⟩, ⟨f1, Str.ofString "is_from", Str.ofString "is_from", topS 10, .mod⟩, ⟨f2, Str.ofString "is_word_in", Str.ofString "is_word_in", topS 11, .mod⟩, ⟨f3, Str.ofString "are_words_in", Str.ofString "are_words_in", topS 12, .mod⟩, ⟨f4, Str.ofString "are_ascending", Str.ofString "are_ascending", topS 13, .mod⟩, ⟨f5, Str.ofString "head_of", Str.ofString "head_of", topS 14, .mod⟩, ⟨f6, Str.ofString "has_bit", Str.ofString "has_bit", topS 15, .mod⟩, ⟨f7, Str.ofString "word_in", Str.ofString "word_in", topS 16, .mod⟩, ⟨f8, Str.ofString "remainder_in", Str.ofString "remainder_in", topS 17, .mod⟩, ⟨f9, Str.ofString "with_word", Str.ofString "with_word", topS 18, .mod⟩, ⟨f10, Str.ofString "basis_in", Str.ofString "basis_in", topS 19, .mod⟩, ⟨f11, Str.ofString "heads_in", Str.ofString "heads_in", topS 20, .mod⟩, ⟨f12, Str.ofString "free_in", Str.ofString "free_in", topS 21, .mod⟩, ⟨f13, Str.ofString "checks_in", Str.ofString "checks_in", topS 22, .mod⟩, ⟨f14, Str.ofString "meet_in", Str.ofString "meet_in", topS 23, .mod⟩, ⟨f15, Str.ofString "require_length", Str.ofString "require_length", topS 24, .mod⟩, ⟨f16, Str.ofString "require_words", Str.ofString "require_words", topS 25, .mod⟩, ⟨f17, Str.ofString "cut_in", Str.ofString "cut_in", topS 28, .mod⟩, ⟨f18, Str.ofString "trace_in", Str.ofString "trace_in", topS 29, .mod⟩, ⟨f19, Str.ofString "within_in", Str.ofString "within_in", topS 30, .mod⟩, ⟨f20, Str.ofString "part_in", Str.ofString "part_in", topS 31, .mod⟩, ⟨f21, Str.ofString "made_of", Str.ofString "made_of", topS 32, .mod⟩, ⟨f22, Str.ofString "require_code", Str.ofString "require_code", topS 33, .mod⟩, ⟨f23, Str.ofString "is_lot_in", Str.ofString "is_lot_in", topS 34, .mod⟩, ⟨f24, Str.ofString "require_lot", Str.ofString "require_lot", topS 35, .mod⟩, ⟨f25, Str.ofString "dual", Str.ofString "dual", topS 36, .mod⟩, ⟨f26, Str.ofString "part_on", Str.ofString "part_on", topS 37, .mod⟩, ⟨f27, Str.ofString "trace_on", Str.ofString "trace_on", topS 38, .mod⟩, ⟨f28, Str.ofString "_law_vat", Str.ofString "_law_vat", topS 40, .mod⟩, ⟨f29, Str.ofString "_law_draw", Str.ofString "_law_draw", topS 41, .mod⟩, ⟨f30, Str.ofString "_law_pick", Str.ofString "_law_pick", topS 42, .mod⟩, ⟨f31, Str.ofString "_law_bits", Str.ofString "_law_bits", topS 43, .mod⟩, ⟨f32, Str.ofString "_law_sum", Str.ofString "_law_sum", topS 44, .mod⟩, ⟨f33, Str.ofString "_law_rest", Str.ofString "_law_rest", topS 45, .mod⟩, ⟨f34, Str.ofString "_law_basis", Str.ofString "_law_basis", topS 46, .mod⟩, ⟨f35, Str.ofString "_law_span", Str.ofString "_law_span", topS 47, .mod⟩, ⟨f36, Str.ofString "_law_dual", Str.ofString "_law_dual", topS 48, .mod⟩, ⟨f37, Str.ofString "_law_words", Str.ofString "_law_words", topS 49, .mod⟩, ⟨f38, Str.ofString "_law_beside", Str.ofString "_law_beside", topS 50, .mod⟩, ⟨f39, Str.ofString "_law_own", Str.ofString "_law_own", topS 51, .mod⟩, ⟨f40, Str.ofString "_law_lot", Str.ofString "_law_lot", topS 52, .mod⟩, ⟨f41, Str.ofString "_law_cut", Str.ofString "_law_cut", topS 53, .mod⟩, ⟨f42, Str.ofString "_law_right", Str.ofString "_law_right", topS 54, .mod⟩, ⟨f43, Str.ofString "law", Str.ofString "law", topS 55, .mod⟩, ⟨f44, Str.ofString "__init__", Str.ofString "Code.__init__", inClass (topS 27) 1, .ini 0⟩, ⟨f45, Str.ofString "length", Str.ofString "Code.length", inClass (topS 27) 2, .prp 0⟩, ⟨f46, Str.ofString "basis", Str.ofString "Code.basis", inClass (topS 27) 3, .prp 0⟩, ⟨f47, Str.ofString "dimension", Str.ofString "Code.dimension", inClass (topS 27) 4, .prp 0⟩, ⟨f48, Str.ofString "__eq__", Str.ofString "Code.__eq__", inClass (topS 27) 5, .eqm 0⟩, ⟨f49, Str.ofString "__str__", Str.ofString "Code.__str__", inClass (topS 27) 6, .oth 0⟩]
def cs : List (Str × Vl) := [(Str.ofString "MOST_LENGTH", (.int 24)), (Str.ofString "MOST_WORDS", (.int 64))]
def krs : List KR := [⟨Str.ofString "Code", [(Str.ofString "own_basis", 0), (Str.ofString "own_length", 1)], 2⟩]
def ats : List Str := [Str.ofString "own_basis", Str.ofString "own_length", Str.ofString "length", Str.ofString "basis", Str.ofString "dimension"]
abbrev D : Nm := mkDc tab cs krs ats
theorem s0 : DSc D f0 (Str.ofString "is_whole") (Str.ofString "is_whole") (topS 9) [Str.ofString "value"] [Str.ofString "value"] := ⟨⟨rfl, rfl, rfl, by decide +kernel, rfl, by decide +kernel, by decide +kernel⟩, fun _ _ _ _ _ _ us hl => match us, hl with | [_], _ => rfl, rfl, rfl, by decide +kernel⟩
theorem s1 : DSc D f1 (Str.ofString "is_from") (Str.ofString "is_from") (topS 10) [Str.ofString "value", Str.ofString "least", Str.ofString "most"] [Str.ofString "value", Str.ofString "least", Str.ofString "most"] := ⟨⟨rfl, rfl, rfl, by decide +kernel, rfl, by decide +kernel, by decide +kernel⟩, fun _ _ _ _ _ _ us hl => match us, hl with | [_, _, _], _ => rfl, rfl, rfl, by decide +kernel⟩
theorem s2 : DSc D f2 (Str.ofString "is_word_in") (Str.ofString "is_word_in") (topS 11) [Str.ofString "length", Str.ofString "value"] [Str.ofString "length", Str.ofString "value"] := ⟨⟨rfl, rfl, rfl, by decide +kernel, rfl, by decide +kernel, by decide +kernel⟩, fun _ _ _ _ _ _ us hl => match us, hl with | [_, _], _ => rfl, rfl, rfl, by decide +kernel⟩
theorem s3 : DSc D f3 (Str.ofString "are_words_in") (Str.ofString "are_words_in") (topS 12) [Str.ofString "length", Str.ofString "value", Str.ofString "one"] [Str.ofString "length", Str.ofString "value"] := ⟨⟨rfl, rfl, rfl, by decide +kernel, rfl, by decide +kernel, by decide +kernel⟩, fun _ _ _ _ _ _ us hl => match us, hl with | [_, _], _ => rfl, rfl, rfl, by decide +kernel⟩
theorem s4 : DSc D f4 (Str.ofString "are_ascending") (Str.ofString "are_ascending") (topS 13) [Str.ofString "value", Str.ofString "most", Str.ofString "one", Str.ofString "other"] [Str.ofString "value", Str.ofString "most"] := ⟨⟨rfl, rfl, rfl, by decide +kernel, rfl, by decide +kernel, by decide +kernel⟩, fun _ _ _ _ _ _ us hl => match us, hl with | [_, _], _ => rfl, rfl, rfl, by decide +kernel⟩
theorem s5 : DSc D f5 (Str.ofString "head_of") (Str.ofString "head_of") (topS 14) [Str.ofString "word"] [Str.ofString "word"] := ⟨⟨rfl, rfl, rfl, by decide +kernel, rfl, by decide +kernel, by decide +kernel⟩, fun _ _ _ _ _ _ us hl => match us, hl with | [_], _ => rfl, rfl, rfl, by decide +kernel⟩
theorem s6 : DSc D f6 (Str.ofString "has_bit") (Str.ofString "has_bit") (topS 15) [Str.ofString "word", Str.ofString "place"] [Str.ofString "word", Str.ofString "place"] := ⟨⟨rfl, rfl, rfl, by decide +kernel, rfl, by decide +kernel, by decide +kernel⟩, fun _ _ _ _ _ _ us hl => match us, hl with | [_, _], _ => rfl, rfl, rfl, by decide +kernel⟩
theorem s7 : DSc D f7 (Str.ofString "word_in") (Str.ofString "word_in") (topS 16) [Str.ofString "places", Str.ofString "place"] [Str.ofString "places"] := ⟨⟨rfl, rfl, rfl, by decide +kernel, rfl, by decide +kernel, by decide +kernel⟩, fun _ _ _ _ _ _ us hl => match us, hl with | [_], _ => rfl, rfl, rfl, by decide +kernel⟩
theorem s8 : DSc D f8 (Str.ofString "remainder_in") (Str.ofString "remainder_in") (topS 17) [Str.ofString "basis", Str.ofString "word", Str.ofString "one"] [Str.ofString "basis", Str.ofString "word"] := ⟨⟨rfl, rfl, rfl, by decide +kernel, rfl, by decide +kernel, by decide +kernel⟩, fun _ _ _ _ _ _ us hl => match us, hl with | [_, _], _ => rfl, rfl, rfl, by decide +kernel⟩
theorem s9 : DSc D f9 (Str.ofString "with_word") (Str.ofString "with_word") (topS 18) [Str.ofString "basis", Str.ofString "word", Str.ofString "rest", Str.ofString "place", Str.ofString "one"] [Str.ofString "basis", Str.ofString "word"] := ⟨⟨rfl, rfl, rfl, by decide +kernel, rfl, by decide +kernel, by decide +kernel⟩, fun _ _ _ _ _ _ us hl => match us, hl with | [_, _], _ => rfl, rfl, rfl, by decide +kernel⟩
theorem s10 : DSc D f10 (Str.ofString "basis_in") (Str.ofString "basis_in") (topS 19) [Str.ofString "words", Str.ofString "found", Str.ofString "word"] [Str.ofString "words"] := ⟨⟨rfl, rfl, rfl, by decide +kernel, rfl, by decide +kernel, by decide +kernel⟩, fun _ _ _ _ _ _ us hl => match us, hl with | [_], _ => rfl, rfl, rfl, by decide +kernel⟩
theorem s11 : DSc D f11 (Str.ofString "heads_in") (Str.ofString "heads_in") (topS 20) [Str.ofString "basis", Str.ofString "word"] [Str.ofString "basis"] := ⟨⟨rfl, rfl, rfl, by decide +kernel, rfl, by decide +kernel, by decide +kernel⟩, fun _ _ _ _ _ _ us hl => match us, hl with | [_], _ => rfl, rfl, rfl, by decide +kernel⟩
theorem s12 : DSc D f12 (Str.ofString "free_in") (Str.ofString "free_in") (topS 21) [Str.ofString "length", Str.ofString "basis", Str.ofString "heads", Str.ofString "place"] [Str.ofString "length", Str.ofString "basis"] := ⟨⟨rfl, rfl, rfl, by decide +kernel, rfl, by decide +kernel, by decide +kernel⟩, fun _ _ _ _ _ _ us hl => match us, hl with | [_, _], _ => rfl, rfl, rfl, by decide +kernel⟩
theorem s13 : DSc D f13 (Str.ofString "checks_in") (Str.ofString "checks_in") (topS 22) [Str.ofString "length", Str.ofString "basis", Str.ofString "found", Str.ofString "place", Str.ofString "word"] [Str.ofString "length", Str.ofString "basis"] := ⟨⟨rfl, rfl, rfl, by decide +kernel, rfl, by decide +kernel, by decide +kernel⟩, fun _ _ _ _ _ _ us hl => match us, hl with | [_, _], _ => rfl, rfl, rfl, by decide +kernel⟩
theorem s14 : DSc D f14 (Str.ofString "meet_in") (Str.ofString "meet_in") (topS 23) [Str.ofString "length", Str.ofString "one", Str.ofString "other"] [Str.ofString "length", Str.ofString "one", Str.ofString "other"] := ⟨⟨rfl, rfl, rfl, by decide +kernel, rfl, by decide +kernel, by decide +kernel⟩, fun _ _ _ _ _ _ us hl => match us, hl with | [_, _, _], _ => rfl, rfl, rfl, by decide +kernel⟩
theorem s15 : DSc D f15 (Str.ofString "require_length") (Str.ofString "require_length") (topS 24) [Str.ofString "value"] [Str.ofString "value"] := ⟨⟨rfl, rfl, rfl, by decide +kernel, rfl, by decide +kernel, by decide +kernel⟩, fun _ _ _ _ _ _ us hl => match us, hl with | [_], _ => rfl, rfl, rfl, by decide +kernel⟩
theorem s16 : DSc D f16 (Str.ofString "require_words") (Str.ofString "require_words") (topS 25) [Str.ofString "length", Str.ofString "value"] [Str.ofString "length", Str.ofString "value"] := ⟨⟨rfl, rfl, rfl, by decide +kernel, rfl, by decide +kernel, by decide +kernel⟩, fun _ _ _ _ _ _ us hl => match us, hl with | [_, _], _ => rfl, rfl, rfl, by decide +kernel⟩
theorem s17 : DSc D f17 (Str.ofString "cut_in") (Str.ofString "cut_in") (topS 28) [Str.ofString "word", Str.ofString "lot", Str.ofString "at", Str.ofString "place"] [Str.ofString "word", Str.ofString "lot"] := ⟨⟨rfl, rfl, rfl, by decide +kernel, rfl, by decide +kernel, by decide +kernel⟩, fun _ _ _ _ _ _ us hl => match us, hl with | [_, _], _ => rfl, rfl, rfl, by decide +kernel⟩
theorem s18 : DSc D f18 (Str.ofString "trace_in") (Str.ofString "trace_in") (topS 29) [Str.ofString "basis", Str.ofString "lot", Str.ofString "word"] [Str.ofString "basis", Str.ofString "lot"] := ⟨⟨rfl, rfl, rfl, by decide +kernel, rfl, by decide +kernel, by decide +kernel⟩, fun _ _ _ _ _ _ us hl => match us, hl with | [_, _], _ => rfl, rfl, rfl, by decide +kernel⟩
theorem s19 : DSc D f19 (Str.ofString "within_in") (Str.ofString "within_in") (topS 30) [Str.ofString "length", Str.ofString "basis", Str.ofString "lot", Str.ofString "place"] [Str.ofString "length", Str.ofString "basis", Str.ofString "lot"] := ⟨⟨rfl, rfl, rfl, by decide +kernel, rfl, by decide +kernel, by decide +kernel⟩, fun _ _ _ _ _ _ us hl => match us, hl with | [_, _, _], _ => rfl, rfl, rfl, by decide +kernel⟩
theorem s20 : DSc D f20 (Str.ofString "part_in") (Str.ofString "part_in") (topS 31) [Str.ofString "length", Str.ofString "basis", Str.ofString "lot", Str.ofString "word"] [Str.ofString "length", Str.ofString "basis", Str.ofString "lot"] := ⟨⟨rfl, rfl, rfl, by decide +kernel, rfl, by decide +kernel, by decide +kernel⟩, fun _ _ _ _ _ _ us hl => match us, hl with | [_, _, _], _ => rfl, rfl, rfl, by decide +kernel⟩
theorem s21 : DSc D f21 (Str.ofString "made_of") (Str.ofString "made_of") (topS 32) [Str.ofString "length", Str.ofString "basis"] [Str.ofString "length", Str.ofString "basis"] := ⟨⟨rfl, rfl, rfl, by decide +kernel, rfl, by decide +kernel, by decide +kernel⟩, fun _ _ _ _ _ _ us hl => match us, hl with | [_, _], _ => rfl, rfl, rfl, by decide +kernel⟩
theorem s22 : DSc D f22 (Str.ofString "require_code") (Str.ofString "require_code") (topS 33) [Str.ofString "value"] [Str.ofString "value"] := ⟨⟨rfl, rfl, rfl, by decide +kernel, rfl, by decide +kernel, by decide +kernel⟩, fun _ _ _ _ _ _ us hl => match us, hl with | [_], _ => rfl, rfl, rfl, by decide +kernel⟩
theorem s23 : DSc D f23 (Str.ofString "is_lot_in") (Str.ofString "is_lot_in") (topS 34) [Str.ofString "length", Str.ofString "value"] [Str.ofString "length", Str.ofString "value"] := ⟨⟨rfl, rfl, rfl, by decide +kernel, rfl, by decide +kernel, by decide +kernel⟩, fun _ _ _ _ _ _ us hl => match us, hl with | [_, _], _ => rfl, rfl, rfl, by decide +kernel⟩
theorem s24 : DSc D f24 (Str.ofString "require_lot") (Str.ofString "require_lot") (topS 35) [Str.ofString "code", Str.ofString "lot"] [Str.ofString "code", Str.ofString "lot"] := ⟨⟨rfl, rfl, rfl, by decide +kernel, rfl, by decide +kernel, by decide +kernel⟩, fun _ _ _ _ _ _ us hl => match us, hl with | [_, _], _ => rfl, rfl, rfl, by decide +kernel⟩
theorem s25 : DSc D f25 (Str.ofString "dual") (Str.ofString "dual") (topS 36) [Str.ofString "code"] [Str.ofString "code"] := ⟨⟨rfl, rfl, rfl, by decide +kernel, rfl, by decide +kernel, by decide +kernel⟩, fun _ _ _ _ _ _ us hl => match us, hl with | [_], _ => rfl, rfl, rfl, by decide +kernel⟩
theorem s26 : DSc D f26 (Str.ofString "part_on") (Str.ofString "part_on") (topS 37) [Str.ofString "code", Str.ofString "lot"] [Str.ofString "code", Str.ofString "lot"] := ⟨⟨rfl, rfl, rfl, by decide +kernel, rfl, by decide +kernel, by decide +kernel⟩, fun _ _ _ _ _ _ us hl => match us, hl with | [_, _], _ => rfl, rfl, rfl, by decide +kernel⟩
theorem s27 : DSc D f27 (Str.ofString "trace_on") (Str.ofString "trace_on") (topS 38) [Str.ofString "code", Str.ofString "lot"] [Str.ofString "code", Str.ofString "lot"] := ⟨⟨rfl, rfl, rfl, by decide +kernel, rfl, by decide +kernel, by decide +kernel⟩, fun _ _ _ _ _ _ us hl => match us, hl with | [_, _], _ => rfl, rfl, rfl, by decide +kernel⟩
theorem s28 : DSc D f28 (Str.ofString "_law_vat") (Str.ofString "_law_vat") (topS 40) [Str.ofString "script", Str.ofString "spot", Str.ofString "cell", Str.ofString "great"] [Str.ofString "script", Str.ofString "spot"] := ⟨⟨rfl, rfl, rfl, by decide +kernel, rfl, by decide +kernel, by decide +kernel⟩, fun _ _ _ _ _ _ us hl => match us, hl with | [_, _], _ => rfl, rfl, rfl, by decide +kernel⟩
theorem s29 : DSc D f29 (Str.ofString "_law_draw") (Str.ofString "_law_draw") (topS 41) [Str.ofString "vat", Str.ofString "total", Str.ofString "one", Str.ofString "two", Str.ofString "found"] [Str.ofString "vat", Str.ofString "total"] := ⟨⟨rfl, rfl, rfl, by decide +kernel, rfl, by decide +kernel, by decide +kernel⟩, fun _ _ _ _ _ _ us hl => match us, hl with | [_, _], _ => rfl, rfl, rfl, by decide +kernel⟩
theorem s30 : DSc D f30 (Str.ofString "_law_pick") (Str.ofString "_law_pick") (topS 42) [Str.ofString "vat", Str.ofString "items"] [Str.ofString "vat", Str.ofString "items"] := ⟨⟨rfl, rfl, rfl, by decide +kernel, rfl, by decide +kernel, by decide +kernel⟩, fun _ _ _ _ _ _ us hl => match us, hl with | [_, _], _ => rfl, rfl, rfl, by decide +kernel⟩
theorem s31 : DSc D f31 (Str.ofString "_law_bits") (Str.ofString "_law_bits") (topS 43) [Str.ofString "word", Str.ofString "place"] [Str.ofString "word"] := ⟨⟨rfl, rfl, rfl, by decide +kernel, rfl, by decide +kernel, by decide +kernel⟩, fun _ _ _ _ _ _ us hl => match us, hl with | [_], _ => rfl, rfl, rfl, by decide +kernel⟩
theorem s32 : DSc D f32 (Str.ofString "_law_sum") (Str.ofString "_law_sum") (topS 44) [Str.ofString "words", Str.ofString "found", Str.ofString "word"] [Str.ofString "words"] := ⟨⟨rfl, rfl, rfl, by decide +kernel, rfl, by decide +kernel, by decide +kernel⟩, fun _ _ _ _ _ _ us hl => match us, hl with | [_], _ => rfl, rfl, rfl, by decide +kernel⟩
theorem s33 : DSc D f33 (Str.ofString "_law_rest") (Str.ofString "_law_rest") (topS 45) [Str.ofString "basis", Str.ofString "word", Str.ofString "one"] [Str.ofString "basis", Str.ofString "word"] := ⟨⟨rfl, rfl, rfl, by decide +kernel, rfl, by decide +kernel, by decide +kernel⟩, fun _ _ _ _ _ _ us hl => match us, hl with | [_, _], _ => rfl, rfl, rfl, by decide +kernel⟩
theorem s34 : DSc D f34 (Str.ofString "_law_basis") (Str.ofString "_law_basis") (topS 46) [Str.ofString "words", Str.ofString "found", Str.ofString "word", Str.ofString "rest", Str.ofString "one"] [Str.ofString "words"] := ⟨⟨rfl, rfl, rfl, by decide +kernel, rfl, by decide +kernel, by decide +kernel⟩, fun _ _ _ _ _ _ us hl => match us, hl with | [_], _ => rfl, rfl, rfl, by decide +kernel⟩
theorem s35 : DSc D f35 (Str.ofString "_law_span") (Str.ofString "_law_span") (topS 47) [Str.ofString "basis", Str.ofString "found", Str.ofString "word", Str.ofString "one"] [Str.ofString "basis"] := ⟨⟨rfl, rfl, rfl, by decide +kernel, rfl, by decide +kernel, by decide +kernel⟩, fun _ _ _ _ _ _ us hl => match us, hl with | [_], _ => rfl, rfl, rfl, by decide +kernel⟩
theorem s36 : DSc D f36 (Str.ofString "_law_dual") (Str.ofString "_law_dual") (topS 48) [Str.ofString "length", Str.ofString "basis", Str.ofString "heads", Str.ofString "found", Str.ofString "place", Str.ofString "word", Str.ofString "head"] [Str.ofString "length", Str.ofString "basis"] := ⟨⟨rfl, rfl, rfl, by decide +kernel, rfl, by decide +kernel, by decide +kernel⟩, fun _ _ _ _ _ _ us hl => match us, hl with | [_, _], _ => rfl, rfl, rfl, by decide +kernel⟩
theorem s37 : DSc D f37 (Str.ofString "_law_words") (Str.ofString "_law_words") (topS 49) [Str.ofString "vat", Str.ofString "length", Str.ofString "most", Str.ofString "turn"] [Str.ofString "vat", Str.ofString "length", Str.ofString "most"] := ⟨⟨rfl, rfl, rfl, by decide +kernel, rfl, by decide +kernel, by decide +kernel⟩, fun _ _ _ _ _ _ us hl => match us, hl with | [_, _, _], _ => rfl, rfl, rfl, by decide +kernel⟩
theorem s38 : DSc D f38 (Str.ofString "_law_beside") (Str.ofString "_law_beside") (topS 50) [Str.ofString "basis", Str.ofString "word", Str.ofString "odd", Str.ofString "even", Str.ofString "one"] [Str.ofString "basis", Str.ofString "word"] := ⟨⟨rfl, rfl, rfl, by decide +kernel, rfl, by decide +kernel, by decide +kernel⟩, fun _ _ _ _ _ _ us hl => match us, hl with | [_, _], _ => rfl, rfl, rfl, by decide +kernel⟩
theorem s39 : DSc D f39 (Str.ofString "_law_own") (Str.ofString "_law_own") (topS 51) [Str.ofString "vat", Str.ofString "length", Str.ofString "steps", Str.ofString "found", Str.ofString "turn", Str.ofString "word", Str.ofString "at"] [Str.ofString "vat", Str.ofString "length", Str.ofString "steps"] := ⟨⟨rfl, rfl, rfl, by decide +kernel, rfl, by decide +kernel, by decide +kernel⟩, fun _ _ _ _ _ _ us hl => match us, hl with | [_, _, _], _ => rfl, rfl, rfl, by decide +kernel⟩
theorem s40 : DSc D f40 (Str.ofString "_law_lot") (Str.ofString "_law_lot") (topS 52) [Str.ofString "vat", Str.ofString "length", Str.ofString "found", Str.ofString "place"] [Str.ofString "vat", Str.ofString "length"] := ⟨⟨rfl, rfl, rfl, by decide +kernel, rfl, by decide +kernel, by decide +kernel⟩, fun _ _ _ _ _ _ us hl => match us, hl with | [_, _], _ => rfl, rfl, rfl, by decide +kernel⟩
theorem s41 : DSc D f41 (Str.ofString "_law_cut") (Str.ofString "_law_cut") (topS 53) [Str.ofString "word", Str.ofString "lot", Str.ofString "at", Str.ofString "place"] [Str.ofString "word", Str.ofString "lot"] := ⟨⟨rfl, rfl, rfl, by decide +kernel, rfl, by decide +kernel, by decide +kernel⟩, fun _ _ _ _ _ _ us hl => match us, hl with | [_, _], _ => rfl, rfl, rfl, by decide +kernel⟩
theorem s42 : DSc D f42 (Str.ofString "_law_right") (Str.ofString "_law_right") (topS 54) [Str.ofString "vat", Str.ofString "length", Str.ofString "basis", Str.ofString "rest", Str.ofString "outer", Str.ofString "due", Str.ofString "code", Str.ofString "lot", Str.ofString "part", Str.ofString "trace", Str.ofString "other", Str.ofString "word", Str.ofString "place"] [Str.ofString "vat"] := ⟨⟨rfl, rfl, rfl, by decide +kernel, rfl, by decide +kernel, by decide +kernel⟩, fun _ _ _ _ _ _ us hl => match us, hl with | [_], _ => rfl, rfl, rfl, by decide +kernel⟩
theorem s43 : DSc D f43 (Str.ofString "law") (Str.ofString "law") (topS 55) [Str.ofString "script", Str.ofString "spot", Str.ofString "eight", Str.ofString "told", Str.ofString "vat", Str.ofString "turn"] [Str.ofString "script"] := ⟨⟨rfl, rfl, rfl, by decide +kernel, rfl, by decide +kernel, by decide +kernel⟩, fun _ _ _ _ _ _ us hl => match us, hl with | [_], _ => rfl, rfl, rfl, by decide +kernel⟩
theorem s44 : DSc D f44 (Str.ofString "__init__") (Str.ofString "Code.__init__") (inClass (topS 27) 1) [Str.ofString "self", Str.ofString "length", Str.ofString "words"] [Str.ofString "self", Str.ofString "length", Str.ofString "words"] := ⟨⟨rfl, rfl, rfl, by decide +kernel, rfl, by decide +kernel, by decide +kernel⟩, fun _ _ _ _ _ _ us hl => match us, hl with | [_, _, _], _ => rfl, rfl, rfl, by decide +kernel⟩
theorem s45 : DSc D f45 (Str.ofString "length") (Str.ofString "Code.length") (inClass (topS 27) 2) [Str.ofString "self"] [Str.ofString "self"] := ⟨⟨rfl, rfl, rfl, by decide +kernel, rfl, by decide +kernel, by decide +kernel⟩, fun _ _ _ _ _ _ us hl => match us, hl with | [_], _ => rfl, rfl, rfl, by decide +kernel⟩
theorem s46 : DSc D f46 (Str.ofString "basis") (Str.ofString "Code.basis") (inClass (topS 27) 3) [Str.ofString "self"] [Str.ofString "self"] := ⟨⟨rfl, rfl, rfl, by decide +kernel, rfl, by decide +kernel, by decide +kernel⟩, fun _ _ _ _ _ _ us hl => match us, hl with | [_], _ => rfl, rfl, rfl, by decide +kernel⟩
theorem s47 : DSc D f47 (Str.ofString "dimension") (Str.ofString "Code.dimension") (inClass (topS 27) 4) [Str.ofString "self"] [Str.ofString "self"] := ⟨⟨rfl, rfl, rfl, by decide +kernel, rfl, by decide +kernel, by decide +kernel⟩, fun _ _ _ _ _ _ us hl => match us, hl with | [_], _ => rfl, rfl, rfl, by decide +kernel⟩
theorem s48 : DSc D f48 (Str.ofString "__eq__") (Str.ofString "Code.__eq__") (inClass (topS 27) 5) [Str.ofString "self", Str.ofString "value"] [Str.ofString "self", Str.ofString "value"] := ⟨⟨rfl, rfl, rfl, by decide +kernel, rfl, by decide +kernel, by decide +kernel⟩, fun _ _ _ _ _ _ us hl => match us, hl with | [_, _], _ => rfl, rfl, rfl, by decide +kernel⟩
theorem s49 : DSc D f49 (Str.ofString "__str__") (Str.ofString "Code.__str__") (inClass (topS 27) 6) [Str.ofString "self"] [Str.ofString "self"] := ⟨⟨rfl, rfl, rfl, by decide +kernel, rfl, by decide +kernel, by decide +kernel⟩, fun _ _ _ _ _ _ us hl => match us, hl with | [_], _ => rfl, rfl, rfl, by decide +kernel⟩
theorem sall : AllSc D tab := ⟨⟨_, _, s0⟩, ⟨_, _, s1⟩, ⟨_, _, s2⟩, ⟨_, _, s3⟩, ⟨_, _, s4⟩, ⟨_, _, s5⟩, ⟨_, _, s6⟩, ⟨_, _, s7⟩, ⟨_, _, s8⟩, ⟨_, _, s9⟩, ⟨_, _, s10⟩, ⟨_, _, s11⟩, ⟨_, _, s12⟩, ⟨_, _, s13⟩, ⟨_, _, s14⟩, ⟨_, _, s15⟩, ⟨_, _, s16⟩, ⟨_, _, s17⟩, ⟨_, _, s18⟩, ⟨_, _, s19⟩, ⟨_, _, s20⟩, ⟨_, _, s21⟩, ⟨_, _, s22⟩, ⟨_, _, s23⟩, ⟨_, _, s24⟩, ⟨_, _, s25⟩, ⟨_, _, s26⟩, ⟨_, _, s27⟩, ⟨_, _, s28⟩, ⟨_, _, s29⟩, ⟨_, _, s30⟩, ⟨_, _, s31⟩, ⟨_, _, s32⟩, ⟨_, _, s33⟩, ⟨_, _, s34⟩, ⟨_, _, s35⟩, ⟨_, _, s36⟩, ⟨_, _, s37⟩, ⟨_, _, s38⟩, ⟨_, _, s39⟩, ⟨_, _, s40⟩, ⟨_, _, s41⟩, ⟨_, _, s42⟩, ⟨_, _, s43⟩, ⟨_, _, s44⟩, ⟨_, _, s45⟩, ⟨_, _, s46⟩, ⟨_, _, s47⟩, ⟨_, _, s48⟩, ⟨_, _, s49⟩, True.intro⟩
abbrev GG : GT := mkGc tab (cs.map (·.2)) krs ats
abbrev FF : Nat → Option FD := mkF (tab.map (·.d))
end Law
set_option Elab.async false
set_option linter.all false
set_option maxRecDepth 100000
set_option maxHeartbeats 1000000
namespace Law
open Mi Gf
theorem run_eq {G : GT} {ft : Nat → Option FD} {n f : Nat} {d : FD} {args : List Vl} {h : Hh} (e : ft f = some d) (hl : args.length = d.ar) :
    run G ft (n + 1) f args h = endF d.frz h.length (evS G (run G ft n) d.body (args.map some ++ List.replicate (d.sl - d.ar) none) h) := by
  show (match ft f with
    | some d => match decide (args.length = d.ar) with
      | true => endF d.frz h.length (evS G (run G ft n) d.body (args.map some ++ List.replicate (d.sl - d.ar) none) h)
      | false => .bad
    | none => .bad) = _
  rw [e]
  dsimp only
  rw [decide_eq_true hl]
theorem end_ret {frz : Bool} {n0 : Nat} {v : Vl} {h : Hh} (e : h.length ≤ n0) : endF frz n0 (.ok (.rt v) h) = .ok v h := by
  unfold endF fin
  cases frz with
  | false => rfl
  | true =>
    dsimp only
    rw [decide_eq_true e]
theorem end_nx {frz : Bool} {n0 : Nat} {env : Env} {h : Hh} (e : h.length ≤ n0) : endF frz n0 (.ok (.nx env) h) = .ok .non h := by
  unfold endF fin
  cases frz with
  | false => rfl
  | true =>
    dsimp only
    rw [decide_eq_true e]
theorem part1 {G : GT} {cf : CF} {env : Env} {h : Hh} : evO G cf (.sm (.int 1)) env h = .ok (some 1) h := rfl
theorem part0 {G : GT} {cf : CF} {env : Env} {h : Hh} : evO G cf .noe env h = .ok none h := rfl
theorem natOf_coe (w : Nat) : natOf (w : Int) = some w := rfl
theorem bnd_ok' {α β : Type} (a : α) (h : Hh) (f : α → Hh → R β) : bnd (.ok a h) f = f a h := rfl
theorem lift_some {α : Type} (a : α) (h : Hh) : lift (some a) h = .ok a h := rfl
theorem bndS_nx (env : Env) (h : Hh) (f : Env → Hh → R Oc) : bndS (.ok (.nx env) h) f = f env h := rfl
theorem bndS_rt (v : Vl) (h : Hh) (f : Env → Hh → R Oc) : bndS (.ok (.rt v) h) f = .ok (.rt v) h := rfl
theorem run_ret {G : GT} {ft : Nat → Option FD} {n f : Nat} {d : FD} {args : List Vl} {h : Hh} {v : Vl} (e : ft f = some d) (hl : args.length = d.ar)
    (hv : evS G (run G ft n) d.body (args.map some ++ List.replicate (d.sl - d.ar) none) h = .ok (.rt v) h) : run G ft (n + 1) f args h = .ok v h := by
  rw [run_eq e hl, hv]
  exact end_ret (Nat.le_refl _)
theorem run_nx {G : GT} {ft : Nat → Option FD} {n f : Nat} {d : FD} {args : List Vl} {h : Hh} {env : Env} (e : ft f = some d) (hl : args.length = d.ar)
    (hv : evS G (run G ft n) d.body (args.map some ++ List.replicate (d.sl - d.ar) none) h = .ok (.nx env) h) : run G ft (n + 1) f args h = .ok .non h := by
  rw [run_eq e hl, hv]
  exact end_nx (Nat.le_refl _)
theorem forL_fold {α σ : Type} {turn : Vl → Env → Hh → R Oc} {g : α → Vl} {E : σ → Env} {step : σ → α → σ} {h : Hh} : ∀ {xs : List α} {s : σ}, (∀ x ∈ xs, ∀ s, turn (g x) (E s) h = .ok (.nx (E (step s x))) h) → forL turn (xs.map g) (E s) h = .ok (.nx (E (xs.foldl step s))) h
  | [], s, _ => rfl
  | x :: xs, s, k => by
    show (match turn (g x) (E s) h with
      | .ok (.nx env1) h1 => forL turn (xs.map g) env1 h1
      | .ok (.ct env1) h1 => forL turn (xs.map g) env1 h1
      | .ok (.bk env1) h1 => .ok (.nx env1) h1
      | .ok (.rt v) h1 => .ok (.rt v) h1
      | .exc c p h1 => .exc c p h1
      | .bad => .bad) = _
    rw [k x List.mem_cons_self s]
    exact forL_fold fun y hy => k y (List.mem_cons_of_mem _ hy)
theorem forL_inv {α σ : Type} {turn : Vl → Env → Hh → R Oc} {g : α → Vl} {E : σ → Env} {step : σ → α → σ} {I : σ → Prop} {h : Hh} : ∀ {xs : List α} {s : σ}, I s → (∀ x ∈ xs, ∀ s, I s → turn (g x) (E s) h = .ok (.nx (E (step s x))) h ∧ I (step s x)) → forL turn (xs.map g) (E s) h = .ok (.nx (E (xs.foldl step s))) h
  | [], s, _, _ => rfl
  | x :: xs, s, i, k => by
    show (match turn (g x) (E s) h with
      | .ok (.nx env1) h1 => forL turn (xs.map g) env1 h1
      | .ok (.ct env1) h1 => forL turn (xs.map g) env1 h1
      | .ok (.bk env1) h1 => .ok (.nx env1) h1
      | .ok (.rt v) h1 => .ok (.rt v) h1
      | .exc c p h1 => .exc c p h1
      | .bad => .bad) = _
    obtain ⟨k1, k2⟩ := k x List.mem_cons_self s i
    rw [k1]
    exact forL_inv k2 fun y hy => k y (List.mem_cons_of_mem _ hy)
theorem forL_f {α σ : Type} {turn : Vl → Env → Hh → R Oc} {g : α → Vl} {h : Hh} {xs : List α} {env : Env} (E : σ → Env) (step : σ → α → σ) (s : σ) (he : env = E s) (k : ∀ x ∈ xs, ∀ s, turn (g x) (E s) h = .ok (.nx (E (step s x))) h) : forL turn (xs.map g) env h = .ok (.nx (E (xs.foldl step s))) h := by
  subst he
  exact forL_fold k
theorem forL_i {α σ : Type} {turn : Vl → Env → Hh → R Oc} {g : α → Vl} {h : Hh} {xs : List α} {env : Env} (E : σ → Env) (step : σ → α → σ) (I : σ → Prop) (s : σ) (he : env = E s) (i : I s) (k : ∀ x ∈ xs, ∀ s, I s → turn (g x) (E s) h = .ok (.nx (E (step s x))) h ∧ I (step s x)) : forL turn (xs.map g) env h = .ok (.nx (E (xs.foldl step s))) h := by
  subst he
  exact forL_inv i k
theorem compL_filter {α : Type} {turn : Vl → Hh → R (Option Vl)} {g k : α → Vl} {p : α → Bool} {h : Hh} : ∀ {xs : List α} {acc : List Vl}, acc.length + xs.length ≤ line → (∀ x ∈ xs, turn (g x) h = .ok (if p x then some (k x) else none) h) → compL turn (xs.map g) acc h = .ok (acc ++ (xs.filter p).map k) h
  | [], acc, _, _ => by simp [compL]
  | x :: xs, acc, hl, q => by
    rw [List.map_cons]
    unfold compL
    rw [q x List.mem_cons_self]
    rw [List.length_cons] at hl
    cases hp : p x with
    | true =>
      simp only [if_true, noX, bnd_ok']
      rw [if_pos (by omega), compL_filter (by rw [List.length_append, List.length_singleton]; omega) fun y hy => q y (List.mem_cons_of_mem _ hy), List.filter_cons_of_pos hp, List.map_cons, List.append_assoc]
      rfl
    | false =>
      simp only [Bool.false_eq_true, if_false, noX, bnd_ok']
      rw [compL_filter (by omega) fun y hy => q y (List.mem_cons_of_mem _ hy), List.filter_cons_of_neg (by rw [hp]; exact Bool.false_ne_true)]
theorem compL_map {α : Type} {turn : Vl → Hh → R (Option Vl)} {g k : α → Vl} {h : Hh} {xs : List α} {acc : List Vl} (hl : acc.length + xs.length ≤ line) (q : ∀ x ∈ xs, turn (g x) h = .ok (some (k x)) h) : compL turn (xs.map g) acc h = .ok (acc ++ xs.map k) h := by
  have := compL_filter (p := fun _ => true) hl q
  rwa [List.filter_eq_self.mpr (fun _ _ => rfl)] at this
def iv (w : Nat) : Vl := .int w
section
variable {h : Hh}
theorem iv_xor (a b : Nat) : binV .xor h (iv a) (iv b) = some (iv (a ^^^ b)) := rfl
theorem iv_and (a b : Nat) : binV .and h (iv a) (iv b) = some (iv (a &&& b)) := rfl
theorem iv_add (a b : Nat) : binV .add h (iv a) (iv b) = some (iv (a + b)) := rfl
theorem iv_axor (a b : Nat) : augV .xor h (iv a) (iv b) = some (iv (a ^^^ b)) := rfl
theorem iv_aadd (a b : Nat) : augV .add h (iv a) (iv b) = some (iv (a + b)) := rfl
theorem iv_eq (a b : Nat) : cmpV .eq h (iv a) (iv b) = some (decide (a = b)) := by
  show some ((a : Int) == (b : Int)) = _
  congr 1
  by_cases e : a = b
  · subst e; simp
  · rw [decide_eq_false e, beq_eq_false_iff_ne]; omega
theorem iv_ne (a b : Nat) : cmpV .ne h (iv a) (iv b) = some (!decide (a = b)) := by
  have := iv_eq (h := h) a b
  show (match cmpV .eq h (iv a) (iv b) with | some b => some (!b) | none => none) = _
  rw [this]
theorem iv_lt (a b : Nat) : cmpV .lt h (iv a) (iv b) = some (decide (a < b)) := by
  show some (decide ((a : Int) < b)) = _
  simp
theorem iv_gt (a b : Nat) : cmpV .gt h (iv a) (iv b) = some (decide (b < a)) := by
  show some (decide ((b : Int) < a)) = _
  simp
theorem iv_le (a b : Nat) : cmpV .le h (iv a) (iv b) = some (decide (a ≤ b)) := by
  show some (decide ((a : Int) ≤ b)) = _
  simp
theorem tru_bl (b : Bool) : truth h (.bl b) = some b := rfl
theorem int_iv (k : Nat) : Vl.int (OfNat.ofNat k) = iv k := rfl
theorem int0 : Vl.int 0 = iv 0 := rfl
theorem int1 : Vl.int 1 = iv 1 := rfl
theorem int2 : Vl.int 2 = iv 2 := rfl
end
theorem range_iv : ∀ (n a : Nat), rangeL n a 1 = (List.range' a n).map iv
  | 0, _ => rfl
  | n + 1, a => by
    show Vl.int a :: rangeL n ((a : Int) + 1) 1 = _
    rw [List.range'_succ, List.map_cons, show ((a : Int) + 1) = ((a + 1 : Nat) : Int) from rfl, range_iv n]
    rfl
theorem range_iv0 (n : Nat) : rangeL n 0 1 = (List.range n).map iv := by
  rw [List.range_eq_range']
  exact range_iv n 0
theorem ints_iv : ∀ ws : List Nat, intsOf (ws.map iv) = some (ws.map (fun w : Nat => (w : Int)))
  | [] => rfl
  | w :: ws => by
    show (match intsOf (ws.map iv) with | some l => some ((w : Int) :: l) | none => none) = _
    rw [ints_iv ws]
    rfl
theorem line_big : 100000 ≤ line := by decide
section
variable {n : Nat} {h : Hh}
theorem r0 (i : Int) : run GG FF (n + 1) 0 [.int i] h = .ok (.bl true) h := by
  rw [run_eq (d := f0) rfl rfl]
  exact end_ret (Nat.le_refl _)
theorem r1 (i a b : Int) : run GG FF (n + 2) 1 [.int i, .int a, .int b] h = .ok (.bl (decide (a ≤ i ∧ i ≤ b))) h := by
  rw [run_eq (d := f1) rfl rfl]
  have e : evS GG (run GG FF (n + 1)) f1.body [some (.int i), some (.int a), some (.int b)] h = .ok (.rt (.bl (decide (a ≤ i ∧ i ≤ b)))) h := by
    simp only [f1, evS, evE, evA, List.getElem?_cons_zero, List.getElem?_cons_succ, bnd_ok', r0, cmpV]
    by_cases h1 : a ≤ i
    · simp only [h1, decide_true, true_and, bnd_ok']
    · simp only [h1, decide_false, false_and, bnd_ok']
  rw [show (List.map some [Vl.int i, Vl.int a, Vl.int b] ++ List.replicate (f1.sl - f1.ar) none) = [some (.int i), some (.int a), some (.int b)] from rfl, e]
  exact end_ret (Nat.le_refl _)
theorem shl1 {l : Nat} (hl : l ≤ 1000) : binI .shl 1 (l : Int) = some ((2 ^ l : Nat) : Int) := by
  unfold binI
  rw [natOf_coe]
  dsimp only
  have h1 : (1 : Int).natAbs.log2 = 0 := by decide
  rw [h1, if_pos (by omega), Int.one_mul]
  rfl
theorem r2 (l : Nat) (hl : l ≤ 1000) (i : Int) : run GG FF (n + 2) 2 [.int l, .int i] h = .ok (.bl (decide (0 ≤ i ∧ i < (2 ^ l : Nat)))) h := by
  refine run_ret (d := f2) rfl rfl ?_
  show evS GG (run GG FF (n + 1)) f2.body [some (.int l), some (.int i)] h = _
  simp only [f2, evS, evE, evA, List.getElem?_cons_zero, List.getElem?_cons_succ, bnd_ok', r0, cmpV, binV, shl1 hl, lift_some]
  by_cases h1 : 0 ≤ i
  · simp only [h1, decide_true, true_and, bnd_ok']
  · simp only [h1, decide_false, false_and, bnd_ok']
theorem r2w (l : Nat) (hl : l ≤ 1000) (w : Nat) (hw : w < 2 ^ l) : run GG FF (n + 2) 2 [.int l, iv w] h = .ok (.bl true) h := by
  unfold iv
  rw [r2 l hl, decide_eq_true ⟨by omega, by omega⟩]
theorem bls_true (p : List Nat) : blsOf (p.map fun _ => Vl.bl true) = some (p.map fun _ => true) := by
  induction p with
  | nil => rfl
  | cons x p ih =>
    show (match blsOf (p.map fun _ => Vl.bl true) with | some l => some (true :: l) | none => none) = _
    rw [ih]
    rfl
theorem r3 (l : Nat) (hl : l ≤ 1000) (ws : List Nat) (hw : ∀ w ∈ ws, w < 2 ^ l) (hz : ws.length ≤ 64) : run GG FF (n + 3) 3 [.int l, .tup (ws.map iv)] h = .ok (.bl true) h := by
  refine run_ret (d := f3) rfl rfl ?_
  show evS GG (run GG FF (n + 2)) f3.body [some (.int l), some (.tup (ws.map iv)), none] h = _
  have gv : GG.gv 1 = some (.int 64) := rfl
  simp only [f3, evS, evE, evA, evF, evW, evC, List.getElem?_cons_zero, List.getElem?_cons_succ, bnd_ok', cmpV, lift_some, bifV, arg1, isV, kdOf, isKd, lenV, seqOf, gv, List.length_map]
  have h1 : decide ((ws.length : Int) ≤ 64) = true := decide_eq_true (by omega)
  simp only [h1, walkC]
  rw [compL_map (k := fun _ => .bl true) (by have := line_big; simp; omega) ?_]
  · simp only [bnd_ok', List.nil_append, ofBls, lstOf, bls_true, List.all_map]
    simp [lift_some, bnd_ok']
  · intro x hx
    simp only [tgV, wipeE, putE, List.set_cons_zero, List.set_cons_succ, List.getElem?_cons_zero, List.getElem?_cons_succ, bnd_ok']
    rw [r2w l hl x (hw x hx)]
    rfl
theorem shrN (w p : Nat) : binI .shr (w : Int) (p : Int) = some ((w / 2 ^ p : Nat) : Int) := by
  unfold binI
  rw [natOf_coe]
  dsimp only
  rw [Int.natCast_ediv, Int.natCast_pow]
  rfl
theorem andN (a b : Nat) : binI .and (a : Int) (b : Int) = some ((a &&& b : Nat) : Int) := rfl
theorem xorN (a b : Nat) : binI .xor (a : Int) (b : Int) = some ((a ^^^ b : Nat) : Int) := rfl
theorem addN (a b : Nat) : binI .add (a : Int) (b : Int) = some ((a + b : Nat) : Int) := rfl
theorem subN {a b : Nat} (h : b ≤ a) : binI .sub (a : Int) (b : Int) = some ((a - b : Nat) : Int) := by
  show some ((a : Int) - b) = _
  rw [Int.ofNat_sub h]
theorem modN {a b : Nat} (h : 0 < b) : binI .mod (a : Int) (b : Int) = some ((a % b : Nat) : Int) := by
  show (if (0 : Int) < (b : Int) then some ((a : Int) % b) else none) = _
  rw [if_pos (by omega)]
  rfl
def wt1 (w : Nat) : Nat := w - ((w / 2) &&& 5592405)
def wt2 (v : Nat) : Nat := (v &&& 3355443) + ((v / 4) &&& 3355443)
def wt (w : Nat) : Nat := ((wt2 (wt1 w) + wt2 (wt1 w) / 16) &&& 986895) % 255
theorem r7 (w : Nat) (hw : w ≠ 0) : run GG FF (n + 1) 5 [iv w] h = .ok (iv w.log2) h := by
  refine run_ret (d := f5) rfl rfl ?_
  show evS GG (run GG FF n) f5.body [some (iv w)] h = _
  unfold iv
  have hz : ¬ ((w : Int) = 0) := by omega
  simp only [f5, evS, evE, evA, List.getElem?_cons_zero, bnd_ok', rcv, mthV, bitsV, hz, if_false, Int.natAbs_natCast, binV]
  erw [subN (a := w.log2 + 1) (b := 1) (by omega)]
  rfl
theorem r8 (w p : Nat) : run GG FF (n + 1) 6 [iv w, iv p] h = .ok (.bl (w.testBit p)) h := by
  refine run_ret (d := f6) rfl rfl ?_
  show evS GG (run GG FF n) f6.body [some (iv w), some (iv p)] h = _
  unfold iv
  simp only [f6, evS, evE, evA, List.getElem?_cons_zero, List.getElem?_cons_succ, bnd_ok', binV, shrN, lift_some]
  erw [andN (w / 2 ^ p) 1]
  simp only [lift_some, bnd_ok', cmpV, pyEq, deref, pl, eqV]
  have e : (((((w / 2 ^ p) &&& 1 : Nat) : Int)) == 1) = w.testBit p := by
    rw [Nat.and_one_is_mod, Nat.testBit_eq_decide_div_mod_eq]
    cases Nat.mod_two_eq_zero_or_one (w / 2 ^ p) with
    | inl z => rw [z]; rfl
    | inr z => rw [z]; rfl
  rw [e]
def bits (w : Nat) : Nat := if w = 0 then 0 else w.log2 + 1
theorem bits_iv (w : Nat) : bitsV h (iv w) = .ok (iv (bits w)) h := by
  unfold bitsV iv bits
  by_cases hz : w = 0
  · subst hz
    rfl
  · have : ¬ ((w : Int) = 0) := by omega
    dsimp only
    rw [if_neg this, if_neg hz]
    rfl
def plcs (w : Nat) : List Nat := (List.range (bits w)).filter fun p => w.testBit p
theorem sumI_iv : ∀ l : List Nat, sumI (l.map (fun w : Nat => (w : Int))) = ((l.sum : Nat) : Int)
  | [] => rfl
  | x :: r => by
    show (x : Int) + sumI (r.map (fun w : Nat => (w : Int))) = _
    rw [sumI_iv r, List.sum_cons]
    rfl
theorem r10 (ps : List Nat) (hp : ∀ p ∈ ps, p ≤ 1000) (hl : ps.length ≤ 1000) : run GG FF (n + 1) 7 [.tup (ps.map iv)] h = .ok (iv (ps.map (2 ^ ·)).sum) h := by
  refine run_ret (d := f7) rfl rfl ?_
  show evS GG (run GG FF n) f7.body [some (.tup (ps.map iv)), none] h = _
  simp only [f7, evS, evE, evA, evF, evW, evC, List.getElem?_cons_zero, List.getElem?_cons_succ, bnd_ok', lift_some, walkC]
  rw [compL_map (k := fun p => iv (2 ^ p)) (by have := line_big; simp; omega) ?_]
  · have e : ps.map (fun p => iv (2 ^ p)) = (ps.map (2 ^ ·)).map iv := by rw [List.map_map]; rfl
    simp only [bnd_ok', List.nil_append, bifV, arg1, ofInts, lstOf, e, ints_iv, sumI_iv, lift_some]
    rfl
  · intro p hp'
    simp only [tgV, wipeE, putE, List.set_cons_zero, List.set_cons_succ, List.getElem?_cons_zero, List.getElem?_cons_succ, bnd_ok', iv, binV, shl1 (hp p hp'), lift_some]
theorem r11 (bs : List Nat) (hb : ∀ b ∈ bs, b ≠ 0) (w : Nat) : run GG FF (n + 2) 8 [.tup (bs.map iv), iv w] h = .ok (iv (rem bs w)) h := by
  refine run_ret (d := f8) rfl rfl ?_
  show evS GG (run GG FF (n + 1)) f8.body [some (.tup (bs.map iv)), some (iv w), none] h = _
  simp only [f8, evS, evE, evA, evF, evW, evC, List.getElem?_cons_zero, List.getElem?_cons_succ, bnd_ok', lift_some, walkF]
  rw [forL_f (fun s : Nat × Option Vl => [some (.tup (bs.map iv)), some (iv s.1), s.2]) (fun s b => (if s.1.testBit b.log2 then s.1 ^^^ b else s.1, some (iv b))) (w, none) rfl ?_]
  · have f : ∀ (l : List Nat) (s : Nat × Option Vl), (l.foldl (fun s b => (if s.1.testBit b.log2 then s.1 ^^^ b else s.1, some (iv b))) s).1 = rem l s.1 := by
      intro l
      induction l with
      | nil => intro s; rfl
      | cons b l ih => intro s; exact ih _
    simp only [bndS_nx, List.getElem?_cons_zero, List.getElem?_cons_succ, bnd_ok', f]
  · intro b hb' s
    simp only [tgV, putE, List.set_cons_zero, List.set_cons_succ, List.getElem?_cons_zero, List.getElem?_cons_succ, bnd_ok', r7 b (hb b hb'), r8]
    cases hs : s.1.testBit b.log2 with
    | true => simp only [truth, iv, augV, xorN, if_true]
    | false => simp only [truth, Bool.false_eq_true, if_false]
theorem sortI_iv : ∀ l : List Nat, sortI (l.map (fun w : Nat => (w : Int))) = (sortN l).map (fun w : Nat => (w : Int))
  | [] => rfl
  | x :: r => by
    have ins : ∀ (x : Nat) (l : List Nat), insI (x : Int) (l.map (fun w : Nat => (w : Int))) = (insN x l).map (fun w : Nat => (w : Int)) := by
      intro x l
      induction l with
      | nil => rfl
      | cons y l ih =>
        rw [List.map_cons]
        unfold insI insN
        by_cases hxy : x ≤ y
        · rw [if_pos hxy, if_pos (by omega)]
          rfl
        · rw [if_neg hxy, if_neg (by omega), ih]
          rfl
    show insI (x : Int) (sortI (r.map (fun w : Nat => (w : Int)))) = _
    rw [sortI_iv r, ins]
    rfl
theorem srt_desc (l : List Nat) : ((sortI (l.map (fun w : Nat => (w : Int)))).reverse.map Vl.int) = (desc l).map iv := by
  rw [sortI_iv]
  unfold desc
  rw [List.map_reverse, List.map_reverse, List.map_map]
  rfl
theorem srt_asc (l : List Nat) : ((sortI (l.map (fun w : Nat => (w : Int)))).map Vl.int) = (sortN l).map iv := by
  rw [sortI_iv, List.map_map]
  rfl
theorem r12 (bs : List Nat) (hb : ∀ b ∈ bs, b ≠ 0) (hl : bs.length + 1 ≤ line) (w : Nat) : run GG FF (n + 3) 9 [.tup (bs.map iv), iv w] h = .ok (.tup ((withW bs w).map iv)) h := by
  refine run_ret (d := f9) rfl rfl ?_
  show evS GG (run GG FF (n + 2)) f9.body [some (.tup (bs.map iv)), some (iv w), none, none, none] h = _
  simp only [f9, evS, evE, evA, evF, evW, part1, part0, evC, List.getElem?_cons_zero, List.getElem?_cons_succ, putE, List.set_cons_zero, List.set_cons_succ, tgV, putEs, wipeE, walkC, walkF, bnd_ok', lift_some, bndS_nx, bndS_rt, iv_xor, iv_and, iv_add, iv_axor, iv_aadd, iv_eq, iv_ne, iv_lt, iv_gt, iv_le, tru_bl, int0, int1, int2, r11 bs hb]
  unfold withW
  by_cases hz : rem bs w = 0
  · rw [if_pos hz, decide_eq_true hz]
    simp only [evS, evE, evA, evF, evW, part1, part0, evC, List.getElem?_cons_zero, List.getElem?_cons_succ, putE, List.set_cons_zero, List.set_cons_succ, tgV, putEs, wipeE, walkC, walkF, bnd_ok', lift_some, bndS_nx, bndS_rt, iv_xor, iv_and, iv_add, iv_axor, iv_aadd, iv_eq, iv_ne, iv_lt, iv_gt, iv_le, tru_bl, int0, int1, int2]
  · rw [if_neg hz, decide_eq_false hz]
    simp only [evS, evE, evA, evF, evW, part1, part0, evC, List.getElem?_cons_zero, List.getElem?_cons_succ, putE, List.set_cons_zero, List.set_cons_succ, tgV, putEs, wipeE, walkC, walkF, bnd_ok', lift_some, bndS_nx, bndS_rt, iv_xor, iv_and, iv_add, iv_axor, iv_aadd, iv_eq, iv_ne, iv_lt, iv_gt, iv_le, tru_bl, int0, int1, int2, r7 (rem bs w) hz]
    rw [compL_map (k := fun b => iv (clr (rem bs w) b)) (by have := line_big; simp; omega) ?_]
    · have e2 : bs.map (fun b => iv (clr (rem bs w) b)) = (bs.map (clr (rem bs w))).map iv := by rw [List.map_map]; rfl
      have e3 : (bs.map (clr (rem bs w))).map iv ++ [iv (rem bs w)] = (more bs (rem bs w)).map iv := by
        unfold more
        rw [List.map_append]
        rfl
      have hlen : ((bs.map (clr (rem bs w))).map iv).length + [iv (rem bs w)].length ≤ line := by
        have := line_big
        simp
        omega
      have h1 : decide ([iv (rem bs w)].length ≤ line) = true := decide_eq_true (by show 1 ≤ line; decide)
      simp only [evS, evE, evA, evF, evW, part1, part0, evC, List.getElem?_cons_zero, List.getElem?_cons_succ, putE, List.set_cons_zero, List.set_cons_succ, tgV, putEs, wipeE, walkC, walkF, bnd_ok', lift_some, bndS_nx, bndS_rt, iv_xor, iv_and, iv_add, iv_axor, iv_aadd, iv_eq, iv_ne, iv_lt, iv_gt, iv_le, tru_bl, int0, int1, int2, List.nil_append, e2, h1, catV, lstOf, if_pos hlen, e3, ints_iv, srt_desc, bifV, arg1, tupleV, seqOf]
    · intro b hb'
      simp only [evS, evE, evA, evF, evW, part1, part0, evC, List.getElem?_cons_zero, List.getElem?_cons_succ, putE, List.set_cons_zero, List.set_cons_succ, tgV, putEs, wipeE, walkC, walkF, bnd_ok', lift_some, bndS_nx, bndS_rt, iv_xor, iv_and, iv_add, iv_axor, iv_aadd, iv_eq, iv_ne, iv_lt, iv_gt, iv_le, tru_bl, int0, int1, int2, r8]
      unfold clr
      cases hs : b.testBit (rem bs w).log2 with
      | true => simp only [evS, evE, evA, evF, evW, part1, part0, evC, List.getElem?_cons_zero, List.getElem?_cons_succ, putE, List.set_cons_zero, List.set_cons_succ, tgV, putEs, wipeE, walkC, walkF, bnd_ok', lift_some, bndS_nx, bndS_rt, iv_xor, iv_and, iv_add, iv_axor, iv_aadd, iv_eq, iv_ne, iv_lt, iv_gt, iv_le, tru_bl, int0, int1, int2, if_true]
      | false => simp only [evS, evE, evA, evF, evW, part1, part0, evC, List.getElem?_cons_zero, List.getElem?_cons_succ, putE, List.set_cons_zero, List.set_cons_succ, tgV, putEs, wipeE, walkC, walkF, bnd_ok', lift_some, bndS_nx, bndS_rt, iv_xor, iv_and, iv_add, iv_axor, iv_aadd, iv_eq, iv_ne, iv_lt, iv_gt, iv_le, tru_bl, int0, int1, int2, Bool.false_eq_true, if_false]
theorem line_pow : line = 2 ^ 24 := by decide
theorem r13 (ws : List Nat) (hw : ∀ w ∈ ws, w < 2 ^ 24) : run GG FF (n + 4) 10 [.tup (ws.map iv)] h = .ok (.tup ((basis ws).map iv)) h := by
  refine run_ret (d := f10) rfl rfl ?_
  show evS GG (run GG FF (n + 3)) f10.body [some (.tup (ws.map iv)), none, none] h = _
  have h0 : decide (([] : List Vl).length ≤ line) = true := by decide
  simp only [f10, evS, evE, evA, evF, evW, part1, part0, evC, List.getElem?_cons_zero, List.getElem?_cons_succ, putE, List.set_cons_zero, List.set_cons_succ, tgV, putEs, wipeE, walkC, walkF, bnd_ok', lift_some, bndS_nx, bndS_rt, iv_xor, iv_and, iv_add, iv_axor, iv_aadd, iv_eq, iv_ne, iv_lt, iv_gt, iv_le, tru_bl, int0, int1, int2, h0]
  rw [forL_i (fun s : List Nat × Option Vl => [some (.tup (ws.map iv)), some (.tup (s.1.map iv)), s.2]) (fun s w => (withW s.1 w, some (iv w))) (fun s => BasN 24 s.1) ([], none) ?he (basN_nil 24) ?k]
  case he => rfl
  · have f : ∀ (l : List Nat) (s : List Nat × Option Vl), (l.foldl (fun s w => (withW s.1 w, some (iv w))) s).1 = basisF s.1 l := by
      intro l
      induction l with
      | nil => intro s; rfl
      | cons b l ih => intro s; exact ih _
    simp only [evS, evE, evA, evF, evW, part1, part0, evC, List.getElem?_cons_zero, List.getElem?_cons_succ, putE, List.set_cons_zero, List.set_cons_succ, tgV, putEs, wipeE, walkC, walkF, bnd_ok', lift_some, bndS_nx, bndS_rt, iv_xor, iv_and, iv_add, iv_axor, iv_aadd, iv_eq, iv_ne, iv_lt, iv_gt, iv_le, tru_bl, int0, int1, int2, f]
    rfl
  case k =>
    intro w hw' s B
    have hlen : s.1.length + 1 ≤ line := by rw [line_pow]; exact B.len
    refine ⟨?_, B.more (hw w hw')⟩
    simp only [evS, evE, evA, evF, evW, part1, part0, evC, List.getElem?_cons_zero, List.getElem?_cons_succ, putE, List.set_cons_zero, List.set_cons_succ, tgV, putEs, wipeE, walkC, walkF, bnd_ok', lift_some, bndS_nx, bndS_rt, iv_xor, iv_and, iv_add, iv_axor, iv_aadd, iv_eq, iv_ne, iv_lt, iv_gt, iv_le, tru_bl, int0, int1, int2, r12 s.1 (fun b hb => B.bas.red.pos b hb) hlen]
theorem r14 (bs : List Nat) (hb : ∀ b ∈ bs, b ≠ 0) (hl : bs.length ≤ line) : run GG FF (n + 2) 11 [.tup (bs.map iv)] h = .ok (.lst ((bs.map Nat.log2).map iv)) h := by
  refine run_ret (d := f11) rfl rfl ?_
  show evS GG (run GG FF (n + 1)) f11.body [some (.tup (bs.map iv)), none] h = _
  simp only [f11, evS, evE, evA, evF, evW, part1, part0, evC, List.getElem?_cons_zero, List.getElem?_cons_succ, putE, List.set_cons_zero, List.set_cons_succ, tgV, putEs, wipeE, walkC, walkF, bnd_ok', lift_some, bndS_nx, bndS_rt, iv_xor, iv_and, iv_add, iv_axor, iv_aadd, iv_eq, iv_ne, iv_lt, iv_gt, iv_le, tru_bl, int0, int1, int2]
  rw [compL_map (k := fun b => iv b.log2) (by simpa using hl) ?_]
  · simp only [evS, evE, evA, evF, evW, part1, part0, evC, List.getElem?_cons_zero, List.getElem?_cons_succ, putE, List.set_cons_zero, List.set_cons_succ, tgV, putEs, wipeE, walkC, walkF, bnd_ok', lift_some, bndS_nx, bndS_rt, iv_xor, iv_and, iv_add, iv_axor, iv_aadd, iv_eq, iv_ne, iv_lt, iv_gt, iv_le, tru_bl, int0, int1, int2, List.nil_append, List.map_map]
    rfl
  · intro b hb'
    simp only [evS, evE, evA, evF, evW, part1, part0, evC, List.getElem?_cons_zero, List.getElem?_cons_succ, putE, List.set_cons_zero, List.set_cons_succ, tgV, putEs, wipeE, walkC, walkF, bnd_ok', lift_some, bndS_nx, bndS_rt, iv_xor, iv_and, iv_add, iv_axor, iv_aadd, iv_eq, iv_ne, iv_lt, iv_gt, iv_le, tru_bl, int0, int1, int2, r7 b (hb b hb')]
theorem inB_iv (p : Nat) : ∀ ps : List Nat, inB (iv p) (ps.map iv) = ps.contains p
  | [] => rfl
  | q :: ps => by
    rw [List.map_cons]
    show (match eqV (iv q) (iv p) with | true => true | false => inB (iv p) (ps.map iv)) = _
    have e : eqV (iv q) (iv p) = (p == q) := by
      show ((q : Int) == (p : Int)) = _
      by_cases z : p = q
      · subst z; simp
      · rw [show (p == q) = false from beq_eq_false_iff_ne.mpr z, beq_eq_false_iff_ne]; omega
    rw [e, List.contains_cons]
    cases p == q with
    | true => rfl
    | false => exact inB_iv p ps
theorem flat_iv (ps : List Nat) : (ps.map iv).all flat = true := by
  rw [List.all_eq_true]
  intro x hx
  obtain ⟨q, _, rfl⟩ := List.mem_map.mp hx
  rfl
theorem in_iv (p : Nat) (ps : List Nat) : isIn h (iv p) (.lst (ps.map iv)) = some (ps.contains p) := by
  show (if (flat (iv p) && (ps.map iv).all flat) = true then some (inB (iv p) (ps.map iv)) else none) = _
  rw [flat_iv, inB_iv]
  rfl
theorem r15 (l : Nat) (hl : l ≤ 1000) (bs : List Nat) (hb : ∀ b ∈ bs, b ≠ 0) (hz : bs.length ≤ line) : run GG FF (n + 3) 12 [iv l, .tup (bs.map iv)] h = .ok (.lst (((List.range l).filter fun p => !(bs.map Nat.log2).contains p).map iv)) h := by
  refine run_ret (d := f12) rfl rfl ?_
  show evS GG (run GG FF (n + 2)) f12.body [some (iv l), some (.tup (bs.map iv)), none, none] h = _
  simp only [f12, evS, evE, evA, evF, evW, part1, part0, evC, List.getElem?_cons_zero, List.getElem?_cons_succ, putE, List.set_cons_zero, List.set_cons_succ, tgV, putEs, wipeE, walkC, walkF, bnd_ok', lift_some, bndS_nx, bndS_rt, iv_xor, iv_and, iv_add, iv_axor, iv_aadd, iv_eq, iv_ne, iv_lt, iv_gt, iv_le, tru_bl, int0, int1, int2, r14 bs hb hz]
  have e : rangeL ((l : Int)).toNat 0 1 = (List.range l).map iv := by rw [Int.toNat_natCast, range_iv0]
  have hd : decide (((l : Nat) : Int).natAbs < 1000000000) = true := decide_eq_true (by omega)
  rw [show iv l = Vl.int (l : Nat) from rfl]
  simp only [hd, e, evS, evE, evA, evF, evW, part1, part0, evC, List.getElem?_cons_zero, List.getElem?_cons_succ, putE, List.set_cons_zero, List.set_cons_succ, tgV, putEs, wipeE, walkC, walkF, bnd_ok', lift_some, bndS_nx, bndS_rt, iv_xor, iv_and, iv_add, iv_axor, iv_aadd, iv_eq, iv_ne, iv_lt, iv_gt, iv_le, tru_bl, int0, int1, int2]
  rw [compL_filter (p := fun p => !(bs.map Nat.log2).contains p) (k := iv) (by have := line_big; simp; omega) ?_]
  · simp only [evS, evE, evA, evF, evW, part1, part0, evC, List.getElem?_cons_zero, List.getElem?_cons_succ, putE, List.set_cons_zero, List.set_cons_succ, tgV, putEs, wipeE, walkC, walkF, bnd_ok', lift_some, bndS_nx, bndS_rt, iv_xor, iv_and, iv_add, iv_axor, iv_aadd, iv_eq, iv_ne, iv_lt, iv_gt, iv_le, tru_bl, int0, int1, int2, List.nil_append]
  · intro p hp
    simp only [evS, evE, evA, evF, evW, part1, part0, evC, List.getElem?_cons_zero, List.getElem?_cons_succ, putE, List.set_cons_zero, List.set_cons_succ, tgV, putEs, wipeE, walkC, walkF, bnd_ok', lift_some, bndS_nx, bndS_rt, iv_xor, iv_and, iv_add, iv_axor, iv_aadd, iv_eq, iv_ne, iv_lt, iv_gt, iv_le, tru_bl, int0, int1, int2, cmpV, in_iv]
    cases (bs.map Nat.log2).contains p with
    | true => simp only [evS, evE, evA, evF, evW, part1, part0, evC, List.getElem?_cons_zero, List.getElem?_cons_succ, putE, List.set_cons_zero, List.set_cons_succ, tgV, putEs, wipeE, walkC, walkF, bnd_ok', lift_some, bndS_nx, bndS_rt, iv_xor, iv_and, iv_add, iv_axor, iv_aadd, iv_eq, iv_ne, iv_lt, iv_gt, iv_le, tru_bl, int0, int1, int2, Bool.not_true, Bool.false_eq_true, if_false]
    | false => simp only [evS, evE, evA, evF, evW, part1, part0, evC, List.getElem?_cons_zero, List.getElem?_cons_succ, putE, List.set_cons_zero, List.set_cons_succ, tgV, putEs, wipeE, walkC, walkF, bnd_ok', lift_some, bndS_nx, bndS_rt, iv_xor, iv_and, iv_add, iv_axor, iv_aadd, iv_eq, iv_ne, iv_lt, iv_gt, iv_le, tru_bl, int0, int1, int2, Bool.not_false, if_true]
end
end Law
set_option Elab.async false
set_option linter.all false
set_option maxRecDepth 100000
set_option maxHeartbeats 1000000
namespace Law
open Mi Gf
section
variable {n : Nat} {h : Hh}
theorem g0 : GG.gv 0 = some (iv 24) := rfl
theorem g1 : GG.gv 1 = some (iv 64) := rfl
theorem r1w (i a b : Nat) : run GG FF (n + 2) 1 [iv i, iv a, iv b] h = .ok (.bl (decide (a ≤ i ∧ i ≤ b))) h := by
  unfold iv
  rw [r1]
  congr 2
  rw [decide_eq_decide]
  omega
theorem r17 (l : Nat) (h1 : 1 ≤ l) (h2 : l ≤ 24) : run GG FF (n + 3) 15 [iv l] h = .ok .non h := by
  refine run_nx (d := f15) (env := [some (iv l)]) rfl rfl ?_
  show evS GG (run GG FF (n + 2)) f15.body [some (iv l)] h = _
  simp only [f15, evS, evE, evA, evF, evW, part1, part0, evC, List.getElem?_cons_zero, List.getElem?_cons_succ, putE, List.set_cons_zero, List.set_cons_succ, tgV, putEs, wipeE, walkC, walkF, bnd_ok', lift_some, bndS_nx, bndS_rt, iv_xor, iv_and, iv_add, iv_axor, iv_aadd, iv_eq, iv_ne, iv_lt, iv_gt, iv_le, tru_bl, int0, int1, int2, g0, r1w, decide_eq_true (show 1 ≤ l ∧ l ≤ 24 from ⟨h1, h2⟩), Bool.not_true]
theorem r19 (l : Nat) (hl : l ≤ 1000) (ws : List Nat) (hw : ∀ w ∈ ws, w < 2 ^ l) (hz : ws.length ≤ 64) : run GG FF (n + 4) 16 [iv l, .tup (ws.map iv)] h = .ok .non h := by
  refine run_nx (d := f16) (env := [some (iv l), some (.tup (ws.map iv))]) rfl rfl ?_
  show evS GG (run GG FF (n + 3)) f16.body [some (iv l), some (.tup (ws.map iv))] h = _
  have := r3 (n := n) (h := h) l hl ws hw hz
  rw [show Vl.int (l : Nat) = iv l from rfl] at this
  simp only [f16, evS, evE, evA, evF, evW, part1, part0, evC, List.getElem?_cons_zero, List.getElem?_cons_succ, putE, List.set_cons_zero, List.set_cons_succ, tgV, putEs, wipeE, walkC, walkF, bnd_ok', lift_some, bndS_nx, bndS_rt, iv_xor, iv_and, iv_add, iv_axor, iv_aadd, iv_eq, iv_ne, iv_lt, iv_gt, iv_le, tru_bl, int0, int1, int2, this, Bool.not_true]
structure Told (l : Nat) (ws : List Nat) : Prop where
  one : 1 ≤ l
  most : l ≤ 24
  lt : ∀ w ∈ ws, w < 2 ^ l
  len : ws.length ≤ 64
theorem Told.lt24 {l : Nat} {ws : List Nat} (T : Told l ws) : ∀ w ∈ ws, w < 2 ^ 24 := fun w hw => Nat.lt_of_lt_of_le (T.lt w hw) (Nat.pow_le_pow_right (by decide) T.most)
theorem Told.basN {l : Nat} {ws : List Nat} (T : Told l ws) : BasN l (basis ws) := Gf.basN l T.lt
theorem BasN.le24 {l : Nat} {bs : List Nat} (B : BasN l bs) (hl : l ≤ 24) : bs.length + 1 ≤ line := by
  rw [line_pow]
  exact Nat.le_trans B.len (Nat.pow_le_pow_right (by decide) hl)
theorem bits_le {w k : Nat} (hw : w < 2 ^ k) : bits w ≤ k := by
  unfold bits
  split
  · omega
  · rename_i hz
    exact (Nat.log2_lt hz).mpr hw
end
end Law
set_option Elab.async false
set_option linter.all false
set_option maxRecDepth 100000
set_option maxHeartbeats 1000000
namespace Law
open Mi Gf
theorem get_last (h : Hh) (o : Ob) : (h ++ [o])[h.length]? = some o := by
  rw [List.getElem?_append_right (Nat.le_refl _), Nat.sub_self]
  rfl
theorem set_last (h : Hh) (o o' : Ob) : (h ++ [o]).set h.length o' = h ++ [o'] := by
  rw [List.set_append_right _ _ (Nat.le_refl _), Nat.sub_self]
  rfl
theorem mapO_iv (h : Hh) (n0 k : Nat) : ∀ ws : List Nat, mapO (frV h n0 (k + 1)) (ws.map iv) = some (ws.map iv)
  | [] => rfl
  | w :: ws => by
    have := mapO_iv h n0 k ws
    show (match frV h n0 (k + 1) (iv w) with
      | some y => match mapO (frV h n0 (k + 1)) (ws.map iv) with
        | some l => some (y :: l)
        | none => none
      | none => none) = _
    rw [this]
    rfl
theorem wfL_iv (n0 : Nat) : ∀ ws : List Nat, wfL n0 (ws.map iv) = true
  | [] => by simp [wfL]
  | w :: ws => by
    rw [List.map_cons]
    unfold wfL
    rw [show wfV n0 (iv w) = true from by unfold iv; simp [wfV], wfL_iv n0 ws]
theorem take_app (h : Hh) (o : Ob) : (h ++ [o]).take h.length = h := by
  rw [List.take_left']
  rfl
theorem end_frz {h : Hh} (ws : List Nat) (hw : wfH h.length h = true) : endF true h.length (.ok (.rt (.ref h.length)) (h ++ [.lst (ws.map iv)])) = .ok (.lst (ws.map iv)) h := by
  have hd : decide ((h ++ [Ob.lst (ws.map iv)]).length ≤ h.length) = false := by
    rw [decide_eq_false]
    rw [List.length_append, List.length_singleton]
    omega
  have hf : frV (h ++ [.lst (ws.map iv)]) h.length 30 (.ref h.length) = some (.lst (ws.map iv)) := by
    show (if h.length < h.length then some (Vl.ref h.length) else match (h ++ [Ob.lst (ws.map iv)])[h.length]? with
      | some (.lst xs) => match mapO (frV (h ++ [.lst (ws.map iv)]) h.length 29) xs with
        | some l => some (.lst l)
        | none => none
      | _ => none) = _
    rw [if_neg (Nat.lt_irrefl _), get_last]
    dsimp only
    rw [mapO_iv _ _ 28]
  unfold endF fin
  dsimp only
  rw [hd]
  dsimp only
  rw [hf]
  dsimp only
  rw [show wfV h.length (.lst (ws.map iv)) = true from by simp only [wfV, wfL_iv], take_app, hw]
section
variable {n : Nat} {h : Hh}
theorem cut_tail (ps : List Nat) : cut (ps.map iv) (some 1) none = ps.tail.map iv := by
  unfold cut
  show ((ps.map iv).drop (min 1 (ps.map iv).length)).take ((ps.map iv).length - min 1 (ps.map iv).length) = _
  cases ps with
  | nil => rfl
  | cons p ps =>
    have : min 1 ((p :: ps).map iv).length = 1 := by simp
    rw [this]
    simp
    exact List.take_of_length_le (by simp)
theorem zip_iv : ∀ as bs : List Nat, List.zipWith (fun u v => Vl.tup [u, v]) (as.map iv) (bs.map iv) = (as.zip bs).map fun q => .tup [iv q.1, iv q.2]
  | [], _ => rfl
  | _ :: _, [] => rfl
  | a :: as, b :: bs => by
    rw [List.map_cons, List.map_cons, List.zipWith_cons_cons, zip_iv as bs]
    rfl
theorem bls_true' {α : Type} (p : List α) : blsOf (p.map fun _ => Vl.bl true) = some (p.map fun _ => true) := by
  induction p with
  | nil => rfl
  | cons x p ih =>
    show (match blsOf (p.map fun _ => Vl.bl true) with | some l => some (true :: l) | none => none) = _
    rw [ih]
    rfl
theorem asc_zip : ∀ {ps : List Nat}, ps.Pairwise (· < ·) → ∀ q ∈ ps.zip ps.tail, q.1 < q.2
  | [], _, _, h => by cases h
  | [_], _, _, h => by cases h
  | a :: b :: ps, p, q, h => by
    rcases List.mem_cons.mp h with rfl | h
    · exact (List.pairwise_cons.mp p).1 b List.mem_cons_self
    · exact asc_zip (List.pairwise_cons.mp p).2 q h
theorem r4 (ps : List Nat) (m : Nat) (hm : ∀ p ∈ ps, p ≤ m) (ha : ps.Pairwise (· < ·)) (hl : ps.length ≤ 1000) : run GG FF (n + 3) 4 [.tup (ps.map iv), iv m] h = .ok (.bl true) h := by
  refine run_ret (d := f4) rfl rfl ?_
  show evS GG (run GG FF (n + 2)) f4.body [some (.tup (ps.map iv)), some (iv m), none, none] h = _
  have t1 : bifV .istuple h [.tup (ps.map iv)] = some (.bl true) := rfl
  simp only [f4, evS, evE, evA, evF, evW, part1, part0, evC, List.getElem?_cons_zero, List.getElem?_cons_succ, putE, List.set_cons_zero, List.set_cons_succ, tgV, putEs, wipeE, walkC, walkF, bnd_ok', lift_some, bndS_nx, bndS_rt, iv_xor, iv_and, iv_add, iv_axor, iv_aadd, iv_eq, iv_ne, iv_lt, iv_gt, iv_le, tru_bl, int0, int1, int2, t1, Bool.not_true]
  rw [compL_map (k := fun _ => .bl true) (by have := line_big; simp; omega) ?k1]
  case k1 =>
    intro p hp
    simp only [evS, evE, evA, evF, evW, part1, part0, evC, List.getElem?_cons_zero, List.getElem?_cons_succ, putE, List.set_cons_zero, List.set_cons_succ, tgV, putEs, wipeE, walkC, walkF, bnd_ok', lift_some, bndS_nx, bndS_rt, iv_xor, iv_and, iv_add, iv_axor, iv_aadd, iv_eq, iv_ne, iv_lt, iv_gt, iv_le, tru_bl, int0, int1, int2, r1w, decide_eq_true (show 0 ≤ p ∧ p ≤ m from ⟨Nat.zero_le _, hm p hp⟩)]
  have t2 : ∀ l : List Nat, bifV .all h [.lst (l.map fun _ => .bl true)] = some (.bl true) := fun l => by
    show ofBls h (fun l => l.all id) (.lst (l.map fun _ => Vl.bl true)) = _
    simp only [ofBls, lstOf, bls_true, List.all_map]
    simp
  simp only [evS, evE, evA, evF, evW, part1, part0, evC, List.getElem?_cons_zero, List.getElem?_cons_succ, putE, List.set_cons_zero, List.set_cons_succ, tgV, putEs, wipeE, walkC, walkF, bnd_ok', lift_some, bndS_nx, bndS_rt, iv_xor, iv_and, iv_add, iv_axor, iv_aadd, iv_eq, iv_ne, iv_lt, iv_gt, iv_le, tru_bl, int0, int1, int2, List.nil_append, t2, Bool.not_true, frq, cutW, cut_tail, zip_iv, beq_self_eq_true]
  rw [compL_map (k := fun _ => .bl true) (by have := line_big; simp; omega) ?k2]
  case k2 =>
    intro q hq
    have hlt := asc_zip ha q hq
    simp only [evS, evE, evA, evF, evW, part1, part0, evC, List.getElem?_cons_zero, List.getElem?_cons_succ, putE, List.set_cons_zero, List.set_cons_succ, tgV, putEs, wipeE, walkC, walkF, bnd_ok', lift_some, bndS_nx, bndS_rt, iv_xor, iv_and, iv_add, iv_axor, iv_aadd, iv_eq, iv_ne, iv_lt, iv_gt, iv_le, tru_bl, int0, int1, int2, decide_eq_true hlt]
  have t3 : ∀ l : List (Nat × Nat), bifV .all h [.lst (l.map fun _ => .bl true)] = some (.bl true) := fun l => by
    show ofBls h (fun l => l.all id) (.lst (l.map fun _ => Vl.bl true)) = _
    simp only [ofBls, lstOf, bls_true', List.all_map]
    simp
  simp only [evS, evE, evA, evF, evW, part1, part0, evC, List.getElem?_cons_zero, List.getElem?_cons_succ, putE, List.set_cons_zero, List.set_cons_succ, tgV, putEs, wipeE, walkC, walkF, bnd_ok', lift_some, bndS_nx, bndS_rt, iv_xor, iv_and, iv_add, iv_axor, iv_aadd, iv_eq, iv_ne, iv_lt, iv_gt, iv_le, tru_bl, int0, int1, int2, List.nil_append, t3]
theorem subN' {a b : Nat} (hab : b ≤ a) : binV .sub h (iv a) (iv b) = some (iv (a - b)) := by
  show (match binI .sub (a : Int) (b : Int) with | some k => some (Vl.int k) | none => none) = _
  rw [subN hab]
  rfl
def spanF (bs acc : List Nat) : List Nat := bs.foldl (fun acc w => acc ++ acc.map (· ^^^ w)) acc
def spTurn (cf : CF) (x : Vl) (env : Env) (h : Hh) : R Oc := match tgV (.n 2) x env with
  | some env' => evS GG cf (.ex (.mth .extend (.var 1) (.acons (.fz (.comp [3] (.n 3) (.over (.fz (.listof (.var 1)))) .noe (.bin .xor (.var 3) (.var 2)))) .anil))) env' h
  | none => .bad
theorem spanF_ok {cf : CF} {t : Vl} : ∀ (bs : List Nat) (acc : List Nat) (o : Option Vl), acc.length * 2 ^ bs.length ≤ 100000 →
    ∃ o', forL (spTurn cf) (bs.map iv) [some t, some (.ref h.length), o, none] (h ++ [.lst (acc.map iv)]) = .ok (.nx [some t, some (.ref h.length), o', none]) (h ++ [.lst ((spanF bs acc).map iv)])
  | [], acc, o, _ => ⟨o, rfl⟩
  | b :: bs, acc, o, hz => by
    have hz2 : (acc ++ acc.map (· ^^^ b)).length * 2 ^ bs.length ≤ 100000 := by
      rw [List.length_append, List.length_map]
      rw [List.length_cons, Nat.pow_succ] at hz
      have : (acc.length + acc.length) * 2 ^ bs.length = acc.length * (2 ^ bs.length * 2) := by
        rw [Nat.add_mul, ← Nat.mul_assoc]
        omega
      omega
    have hle : acc.length ≤ 100000 := by
      have h1 : 1 ≤ 2 ^ (b :: bs).length := Nat.one_le_two_pow
      have := Nat.mul_le_mul_left acc.length h1
      omega
    obtain ⟨o', e⟩ := spanF_ok bs (acc ++ acc.map (· ^^^ b)) (some (iv b)) hz2
    refine ⟨o', ?_⟩
    have big := line_big
    have hr : rcv .extend (h ++ [.lst (acc.map iv)]) (.ref h.length) = true := by
      show (match (h ++ [Ob.lst (acc.map iv)])[h.length]? with
        | some (.lst _) => true
        | _ => false) = true
      rw [get_last]
    have hs : seqOf (h ++ [.lst (acc.map iv)]) (.ref h.length) = some (acc.map iv) := by
      show (match (h ++ [Ob.lst (acc.map iv)])[h.length]? with
        | some (.lst xs) => some xs
        | _ => none) = _
      rw [get_last]
    have hx : mthV .extend (h ++ [.lst (acc.map iv)]) (.ref h.length) [.lst (acc.map fun a => iv (a ^^^ b))] = .ok .non (h ++ [.lst ((acc ++ acc.map (· ^^^ b)).map iv)]) := by
      show (match (h ++ [Ob.lst (acc.map iv)])[h.length]? with
        | some (.lst l) => if l.length + (acc.map fun a => iv (a ^^^ b)).length ≤ line then R.ok Vl.non ((h ++ [Ob.lst (acc.map iv)]).set h.length (.lst (l ++ (acc.map fun a => iv (a ^^^ b))))) else .bad
        | _ => .bad) = _
      rw [get_last]
      dsimp only
      have hsz : (acc.map iv).length + (acc.map fun a => iv (a ^^^ b)).length ≤ line := by
        simp
        have h2 : 2 ≤ 2 ^ (b :: bs).length := by
          rw [List.length_cons, Nat.pow_succ]
          have : 1 ≤ 2 ^ bs.length := Nat.one_le_two_pow
          omega
        have := Nat.mul_le_mul_left acc.length h2
        omega
      rw [if_pos hsz, set_last, List.map_append, List.map_map]
      rfl
    have ht : spTurn cf (iv b) [some t, some (.ref h.length), o, none] (h ++ [.lst (acc.map iv)]) = .ok (.nx [some t, some (.ref h.length), some (iv b), none]) (h ++ [.lst ((acc ++ acc.map (· ^^^ b)).map iv)]) := by
      unfold spTurn
      simp only [evS, evE, evA, evF, evW, part1, part0, evC, List.getElem?_cons_zero, List.getElem?_cons_succ, putE, List.set_cons_zero, List.set_cons_succ, tgV, putEs, wipeE, walkC, walkF, bnd_ok', lift_some, bndS_nx, bndS_rt, iv_xor, iv_and, iv_add, iv_axor, iv_aadd, iv_eq, iv_ne, iv_lt, iv_gt, iv_le, tru_bl, int0, int1, int2, hr, hs]
      rw [compL_map (k := fun a => iv (a ^^^ b)) (by simp; omega) ?hk]
      case hk =>
        intro a _
        simp only [evS, evE, evA, evF, evW, part1, part0, evC, List.getElem?_cons_zero, List.getElem?_cons_succ, putE, List.set_cons_zero, List.set_cons_succ, tgV, putEs, wipeE, walkC, walkF, bnd_ok', lift_some, bndS_nx, bndS_rt, iv_xor, iv_and, iv_add, iv_axor, iv_aadd, iv_eq, iv_ne, iv_lt, iv_gt, iv_le, tru_bl, int0, int1, int2]
      simp only [evS, evE, evA, evF, evW, part1, part0, evC, List.getElem?_cons_zero, List.getElem?_cons_succ, putE, List.set_cons_zero, List.set_cons_succ, tgV, putEs, wipeE, walkC, walkF, bnd_ok', lift_some, bndS_nx, bndS_rt, iv_xor, iv_and, iv_add, iv_axor, iv_aadd, iv_eq, iv_ne, iv_lt, iv_gt, iv_le, tru_bl, int0, int1, int2, List.nil_append, hx]
    rw [List.map_cons]
    show (match spTurn cf (iv b) [some t, some (.ref h.length), o, none] (h ++ [.lst (acc.map iv)]) with
      | .ok (.nx env1) h1 => forL (spTurn cf) (bs.map iv) env1 h1
      | .ok (.ct env1) h1 => forL (spTurn cf) (bs.map iv) env1 h1
      | .ok (.bk env1) h1 => .ok (.nx env1) h1
      | .ok (.rt v) h1 => .ok (.rt v) h1
      | .exc c p h1 => .exc c p h1
      | .bad => .bad) = _
    rw [ht]
    exact e
end
end Law
set_option Elab.async false
set_option linter.all false
set_option maxRecDepth 100000
set_option maxHeartbeats 1000000
namespace Law
open Mi Gf
theorem run_rt2 {G : GT} {ft : Nat → Option FD} {n f : Nat} {d : FD} {args : List Vl} {h h' : Hh} {v : Vl} (e : ft f = some d) (hl : args.length = d.ar)
    (hv : evS G (run G ft n) d.body (args.map some ++ List.replicate (d.sl - d.ar) none) h = .ok (.rt v) h') (hlen : h'.length ≤ h.length) : run G ft (n + 1) f args h = .ok v h' := by
  rw [run_eq e hl, hv]
  exact end_ret hlen
theorem run_nx2 {G : GT} {ft : Nat → Option FD} {n f : Nat} {d : FD} {args : List Vl} {h h' : Hh} {env : Env} (e : ft f = some d) (hl : args.length = d.ar)
    (hv : evS G (run G ft n) d.body (args.map some ++ List.replicate (d.sl - d.ar) none) h = .ok (.nx env) h') (hlen : h'.length ≤ h.length) : run G ft (n + 1) f args h = .ok .non h' := by
  rw [run_eq e hl, hv]
  exact end_nx hlen
section
variable {G : GT} {cf : CF}
theorem ev_seq {a b : St} {env : Env} {h : Hh} : evS G cf (.seq a b) env h = bndS (evS G cf a env h) fun env h => evS G cf b env h := rfl
def turnF (G : GT) (cf : CF) (tg : Tg) (b : St) (x : Vl) (env : Env) (h : Hh) : R Oc := match tgV tg x env with
  | some env' => evS G cf b env' h
  | none => .bad
theorem ev_fors {tg : Tg} {it : Ex} {b : St} {env : Env} {h : Hh} : evS G cf (.fors tg it b) env h = bnd (evW G cf it env h) fun w h => walkF (turnF G cf tg b) w env h := rfl
def testW (G : GT) (cf : CF) (c : Ex) (env : Env) (h : Hh) : R Bool := bnd (evE G cf c env h) fun x h => lift (truth h x) h
def bodyW (G : GT) (cf : CF) (b : St) (env : Env) (h : Hh) : R Oc := evS G cf b env h
theorem ev_whiles {c : Ex} {b : St} {env : Env} {h : Hh} : evS G cf (.whiles c b) env h = whileL (testW G cf c) (bodyW G cf b) fuelW env h := rfl
def turnC (G : GT) (cf : CF) (tg : Tg) (own : List Nat) (c e : Ex) (env : Env) (x : Vl) (h : Hh) : R (Option Vl) := match tgV tg x (wipeE env own) with
  | some env' => bnd (evC G cf c env' h) fun b h => match b with
    | true => bnd (evE G cf e env' h) fun y h => .ok (some y) h
    | false => .ok none h
  | none => .bad
theorem f_disp {as : Ex} {env : Env} {h : Hh} : evF G cf (.disp as) env h = bnd (evA G cf as env h) fun xs h => match decide (xs.length ≤ line) with
  | true => .ok xs h
  | false => .bad := rfl
theorem f_cat {a b : Ex} {env : Env} {h : Hh} : evF G cf (.cat a b) env h = bnd (evE G cf a env h) fun x h => bnd (evE G cf b env h) fun y h => lift (catV h x y) h := rfl
theorem f_listof {e : Ex} {env : Env} {h : Hh} : evF G cf (.listof e) env h = bnd (evE G cf e env h) fun x h => lift (seqOf h x) h := rfl
theorem f_srt {r : Bool} {e : Ex} {env : Env} {h : Hh} : evF G cf (.srt r e) env h = bnd (evE G cf e env h) fun x h => match lstOf h x with
  | some l => match intsOf l with
    | some l => match r with
      | true => .ok ((sortI l).reverse.map .int) h
      | false => .ok ((sortI l).map .int) h
    | none => .bad
  | none => match dkeys h x with
    | some ks => match r with
      | true => .bad
      | false => match decide (ks.length < 64) with
        | true => .ok ((sortI ks).map .int) h
        | false => .bad
    | none => .bad := rfl
theorem ev_comp {own : List Nat} {tg : Tg} {it c e : Ex} {env : Env} {h : Hh} : evF G cf (.comp own tg it c e) env h = bnd (evW G cf it env h) fun w h => walkC (turnC G cf tg own c e env) w h := rfl
theorem forL_pre {α : Type} {turn : Vl → Env → Hh → R Oc} {g : α → Vl} (I : List α → Env → Hh → Prop) : ∀ {post pre xs : List α} {env : Env} {h : Hh}, xs = pre ++ post → I pre env h →
    (∀ pre x post, xs = pre ++ x :: post → ∀ env h, I pre env h → ∃ env' h', turn (g x) env h = .ok (.nx env') h' ∧ I (pre ++ [x]) env' h') → ∃ env' h', forL turn (post.map g) env h = .ok (.nx env') h' ∧ I xs env' h'
  | [], pre, xs, env, h, e, i, _ => ⟨env, h, rfl, by rw [e, List.append_nil]; exact i⟩
  | x :: post, pre, xs, env, h, e, i, k => by
    obtain ⟨env1, h1, e1, i1⟩ := k pre x post e env h i
    obtain ⟨env2, h2, e2, i2⟩ := forL_pre I (post := post) (pre := pre ++ [x]) (xs := xs) (by rw [e, List.append_assoc]; rfl) i1 k
    refine ⟨env2, h2, ?_, i2⟩
    show (match turn (g x) env h with
      | .ok (.nx env1) h1 => forL turn (post.map g) env1 h1
      | .ok (.ct env1) h1 => forL turn (post.map g) env1 h1
      | .ok (.bk env1) h1 => .ok (.nx env1) h1
      | .ok (.rt v) h1 => .ok (.rt v) h1
      | .exc c p h1 => .exc c p h1
      | .bad => .bad) = _
    rw [e1]
    exact e2
theorem for_pre {α : Type} {tg : Tg} {b : St} {g : α → Vl} {xs : List α} {env : Env} {h : Hh} (I : List α → Env → Hh → Prop) (i : I [] env h)
    (k : ∀ pre x post, xs = pre ++ x :: post → ∀ env h, I pre env h → ∃ env1 env' h', tgV tg (g x) env = some env1 ∧ evS G cf b env1 h = .ok (.nx env') h' ∧ I (pre ++ [x]) env' h') :
    ∃ env' h', forL (turnF G cf tg b) (xs.map g) env h = .ok (.nx env') h' ∧ I xs env' h' :=
  forL_pre I (pre := []) rfl i fun pre x post e env h i => by
    obtain ⟨env1, env', h', e1, e2, i2⟩ := k pre x post e env h i
    refine ⟨env', h', ?_, i2⟩
    unfold turnF
    rw [e1]
    exact e2
theorem compL_pre {α : Type} {turn : Vl → Hh → R (Option Vl)} {g : α → Vl} (I : List α → List Vl → Hh → Prop) : ∀ {post pre xs : List α} {acc : List Vl} {h : Hh}, xs = pre ++ post → acc.length ≤ pre.length → xs.length ≤ line → I pre acc h →
    (∀ pre x post, xs = pre ++ x :: post → ∀ acc h, I pre acc h → ∃ o h', turn (g x) h = .ok o h' ∧ I (pre ++ [x]) (acc ++ o.toList) h') → ∃ ys h', compL turn (post.map g) acc h = .ok ys h' ∧ I xs ys h'
  | [], pre, xs, acc, h, e, _, _, i, _ => ⟨acc, h, rfl, by rw [e, List.append_nil]; exact i⟩
  | x :: post, pre, xs, acc, h, e, hl, hz, i, k => by
    obtain ⟨o, h1, e1, i1⟩ := k pre x post e acc h i
    have hpre : pre.length < line := by
      have := congrArg List.length e
      rw [List.length_append, List.length_cons] at this
      omega
    cases o with
    | none =>
      obtain ⟨ys, h2, e2, i2⟩ := compL_pre I (post := post) (pre := pre ++ [x]) (xs := xs) (acc := acc) (by rw [e, List.append_assoc]; rfl) (by rw [List.length_append]; omega) hz (by have := i1; rwa [Option.toList_none, List.append_nil] at this) k
      refine ⟨ys, h2, ?_, i2⟩
      rw [List.map_cons]
      unfold compL
      rw [e1]
      exact e2
    | some y =>
      obtain ⟨ys, h2, e2, i2⟩ := compL_pre I (post := post) (pre := pre ++ [x]) (xs := xs) (acc := acc ++ [y]) (by rw [e, List.append_assoc]; rfl) (by rw [List.length_append, List.length_append, List.length_singleton, List.length_singleton]; omega) hz i1 k
      refine ⟨ys, h2, ?_, i2⟩
      rw [List.map_cons]
      unfold compL
      rw [e1]
      show (if acc.length < line then compL turn (post.map g) (acc ++ [y]) h1 else .bad) = _
      rw [if_pos (by omega)]
      exact e2
end
section
variable {h : Hh}
theorem o_mod {a b : Nat} (hb : 0 < b) : binV .mod h (iv a) (iv b) = some (iv (a % b)) := by
  show (match binI .mod (a : Int) (b : Int) with | some k => some (Vl.int k) | none => none) = _
  rw [modN hb]
  rfl
theorem o_fdiv {a b : Nat} (hb : 0 < b) (hl : b.log2 < 9000) : binV .fdiv h (iv a) (iv b) = some (iv (a / b)) := by
  have e : binI .fdiv (a : Int) (b : Int) = some ((a / b : Nat) : Int) := by
    show (if (0 : Int) < (b : Int) then (if (b : Int).natAbs.log2 < 9000 then some ((a : Int) / b) else none) else none) = _
    rw [if_pos (by omega), Int.natAbs_natCast, if_pos hl]
    rfl
  show (match binI .fdiv (a : Int) (b : Int) with | some k => some (Vl.int k) | none => none) = _
  rw [e]
  rfl
theorem o_shl {p : Nat} (hp : p ≤ 1000) : binV .shl h (iv 1) (iv p) = some (iv (2 ^ p)) := by
  show (match binI .shl 1 (p : Int) with | some k => some (Vl.int k) | none => none) = _
  rw [shl1 hp]
  rfl
theorem o_shr (w p : Nat) : binV .shr h (iv w) (iv p) = some (iv (w / 2 ^ p)) := by
  show (match binI .shr (w : Int) (p : Int) with | some k => some (Vl.int k) | none => none) = _
  rw [shrN w p]
  rfl
theorem o_sub {a b : Nat} (hb : b ≤ a) : binV .sub h (iv a) (iv b) = some (iv (a - b)) := by
  show some (Vl.int ((a : Int) - b)) = some (Vl.int ((a - b : Nat) : Int))
  congr 2
  omega
theorem o_mul {a b : Nat} (hs : a < 18446744073709551616 ∨ b < 18446744073709551616) : binV .mul h (iv a) (iv b) = some (iv (a * b)) := by
  have e : binI .mul (a : Int) (b : Int) = some ((a * b : Nat) : Int) := by
    show (if (a : Int).natAbs.log2 + (b : Int).natAbs.log2 < 1000000 ∨ (-18446744073709551616 < (a : Int) ∧ (a : Int) < 18446744073709551616) ∨ (-18446744073709551616 < (b : Int) ∧ (b : Int) < 18446744073709551616) then some ((a : Int) * b) else none) = _
    rw [if_pos (by omega), Int.natCast_mul]
  show (match binI .mul (a : Int) (b : Int) with | some k => some (Vl.int k) | none => none) = _
  rw [e]
  rfl
theorem o_int (w : Nat) : bifV .int h [iv w] = some (iv w) := rfl
theorem o_bit (w p : Nat) : decide ((w / 2 ^ p) &&& 1 = 1) = w.testBit p := by
  rw [Nat.and_one_is_mod, Nat.testBit_eq_decide_div_mod_eq]
theorem o_min {a b : Nat} : bifV .min2 h [iv a, iv b] = some (iv (min a b)) := by
  show some (Vl.int (if ((b : Int) < (a : Int)) then (b : Int) else (a : Int))) = some (Vl.int ((min a b : Nat) : Int))
  congr 2
  split <;> omega
theorem range_ev {cf : CF} {G : GT} {as : Ex} {env : Env} {l : Nat} (hl : l < 1000000000) (e : evA G cf as env h = .ok [iv l] h) : evW G cf (.range as) env h = .ok (.its ((List.range l).map iv)) h := by
  have e1 : rangeL ((l : Int)).toNat 0 1 = (List.range l).map iv := by rw [Int.toNat_natCast, range_iv0]
  have hd : decide (((l : Nat) : Int).natAbs < 1000000000) = true := decide_eq_true (by omega)
  show bnd (evA G cf as env h) _ = _
  rw [e, bnd_ok']
  show (match decide (((l : Nat) : Int).natAbs < 1000000000) with
    | true => R.ok (Wk.its (rangeL ((l : Int)).toNat 0 1)) h
    | false => .bad) = _
  rw [hd, e1]
end
def Its (h : Hh) (v : Vl) (ws : List Nat) : Prop := v = .tup (ws.map iv) ∨ v = .lst (ws.map iv) ∨ ∃ n, v = .ref n ∧ h[n]? = some (.lst (ws.map iv))
theorem its_tup {h : Hh} {ws : List Nat} : Its h (.tup (ws.map iv)) ws := .inl rfl
theorem its_lst {h : Hh} {ws : List Nat} : Its h (.lst (ws.map iv)) ws := .inr (.inl rfl)
theorem its_ref {h : Hh} {n : Nat} {ws : List Nat} (e : h[n]? = some (.lst (ws.map iv))) : Its h (.ref n) ws := .inr (.inr ⟨n, rfl, e⟩)
section
variable {n : Nat} {h : Hh} {cf : CF} {G : GT}
theorem Its.len {v : Vl} {ws : List Nat} (i : Its h v ws) : bifV .len h [v] = some (iv ws.length) := by
  rcases i with rfl | rfl | ⟨k, rfl, e⟩
  · show some (Vl.int ((ws.map iv).length : Nat)) = _
    rw [List.length_map]; rfl
  · show some (Vl.int ((ws.map iv).length : Nat)) = _
    rw [List.length_map]; rfl
  · show (match h[k]? with
      | some (.lst xs) => some (Vl.int (xs.length : Nat))
      | some (.dct xs) => some (.int (xs.length : Nat))
      | _ => none) = _
    rw [e]
    show some (Vl.int ((ws.map iv).length : Nat)) = _
    rw [List.length_map]; rfl
theorem forN_i {α σ : Type} {turn : Vl → Env → Hh → R Oc} {g : α → Vl} {E : σ → Env} {step : σ → α → σ} {I : σ → Prop} {m : Nat} {xs : List α} (e : h[m]? = some (.lst (xs.map g))) (k : ∀ x ∈ xs, ∀ s, I s → turn (g x) (E s) h = .ok (.nx (E (step s x))) h ∧ I (step s x)) :
    ∀ {f i : Nat} {s : σ}, I s → xs.length - i < f → forN turn m f i (E s) h = .ok (.nx (E ((xs.drop i).foldl step s))) h
  | 0, i, s, _, hf => by omega
  | f + 1, i, s, i0, hf => by
    unfold forN
    rw [e]
    dsimp only
    by_cases hi : i < xs.length
    · rw [List.getElem?_map, List.getElem?_eq_getElem hi, List.drop_eq_getElem_cons hi]
      obtain ⟨k1, k2⟩ := k _ (List.getElem_mem hi) s i0
      show (match turn (g xs[i]) (E s) h with
        | .ok (.nx env1) h1 => forN turn m f (i + 1) env1 h1
        | .ok (.ct env1) h1 => forN turn m f (i + 1) env1 h1
        | .ok (.bk env1) h1 => .ok (.nx env1) h1
        | .ok (.rt v) h1 => .ok (.rt v) h1
        | .exc c p h1 => .exc c p h1
        | .bad => .bad) = _
      rw [k1]
      exact forN_i e k k2 (by omega)
    · rw [List.getElem?_eq_none (by rw [List.length_map]; omega), List.drop_eq_nil_of_le (by omega)]
      rfl
theorem compN_compL {turn : Vl → Hh → R (Option Vl)} {m : Nat} {xs : List Vl} (e : h[m]? = some (.lst xs)) : ∀ {k i : Nat} {acc : List Vl}, xs.length - i < k → (∀ x ∈ xs, ∀ o h', turn x h = .ok o h' → h' = h) →
    compN turn m k i acc h = compL turn (xs.drop i) acc h
  | 0, i, acc, hk, _ => by omega
  | k + 1, i, acc, hk, q => by
    unfold compN
    rw [e]
    dsimp only
    by_cases hi : i < xs.length
    · rw [List.getElem?_eq_getElem hi, List.drop_eq_getElem_cons hi]
      dsimp only
      conv => rhs; unfold compL
      cases ht : turn xs[i] h with
      | bad => rfl
      | exc c p h1 => rfl
      | ok o h1 =>
        have hh := q _ (List.getElem_mem hi) o h1 ht
        rw [hh]
        cases o with
        | none => exact compN_compL e (by omega) q
        | some y =>
          show (if acc.length < line then compN turn m k (i + 1) (acc ++ [y]) h else .bad) = if acc.length < line then compL turn (xs.drop (i + 1)) (acc ++ [y]) h else .bad
          split
          · exact compN_compL e (by omega) q
          · rfl
    · rw [List.getElem?_eq_none (by omega), List.drop_eq_nil_of_le (by omega)]
      rfl
theorem for_its {σ : Type} {tg : Tg} {b : St} {e : Ex} {env : Env} {v : Vl} {ws : List Nat} (he : evE G cf e env h = .ok v h) (i : Its h v ws) (hz : ws.length < fuelW) (E : σ → Env) (step : σ → Nat → σ) (I : σ → Prop) (s : σ) (henv : env = E s) (i0 : I s)
    (k : ∀ w ∈ ws, ∀ s, I s → turnF G cf tg b (iv w) (E s) h = .ok (.nx (E (step s w))) h ∧ I (step s w)) : evS G cf (.fors tg (.over e) b) env h = .ok (.nx (E (ws.foldl step s))) h := by
  have key : forL (turnF G cf tg b) (ws.map iv) env h = .ok (.nx (E (ws.foldl step s))) h := forL_i E step I s henv i0 k
  rw [ev_fors]
  have ew : evW G cf (.over e) env h = bnd (evE G cf e env h) fun x h => match x with
    | .tup xs => .ok (.its xs) h
    | .lst xs => .ok (.its xs) h
    | .scr xs => .ok (.its xs) h
    | .ref n => match h[n]? with
      | some (.lst _) => .ok (.live n) h
      | _ => .bad
    | _ => .bad := rfl
  rw [ew, he, bnd_ok']
  rcases i with rfl | rfl | ⟨m, rfl, e2⟩
  · exact key
  · exact key
  · dsimp only
    rw [e2]
    show forN (turnF G cf tg b) m fuelW 0 env h = _
    rw [henv]
    have := forN_i (g := iv) (E := E) (step := step) (I := I) e2 k (f := fuelW) (i := 0) i0 (by omega)
    rwa [List.drop_zero] at this
theorem comp_its {tg : Tg} {own : List Nat} {c el e : Ex} {env : Env} {v : Vl} {ws : List Nat} (p : Nat → Bool) (k : Nat → Vl) (he : evE G cf e env h = .ok v h) (i : Its h v ws) (hz : ws.length < fuelW)
    (q : ∀ w ∈ ws, turnC G cf tg own c el env (iv w) h = .ok (if p w then some (k w) else none) h) : evF G cf (.comp own tg (.over e) c el) env h = .ok ((ws.filter p).map k) h := by
  have hl : fuelW ≤ line := by decide
  have key : compL (turnC G cf tg own c el env) (ws.map iv) [] h = .ok ((ws.filter p).map k) h := by
    rw [compL_filter (p := p) (k := k) (by simp; omega) q, List.nil_append]
  rw [ev_comp]
  have ew : evW G cf (.over e) env h = bnd (evE G cf e env h) fun x h => match x with
    | .tup xs => .ok (.its xs) h
    | .lst xs => .ok (.its xs) h
    | .scr xs => .ok (.its xs) h
    | .ref n => match h[n]? with
      | some (.lst _) => .ok (.live n) h
      | _ => .bad
    | _ => .bad := rfl
  rw [ew, he, bnd_ok']
  rcases i with rfl | rfl | ⟨m, rfl, e2⟩
  · exact key
  · exact key
  · dsimp only
    rw [e2]
    show compN (turnC G cf tg own c el env) m fuelW 0 [] h = _
    rw [compN_compL e2 (by rw [List.length_map]; omega) (fun x hx o h' z => by
      obtain ⟨w, hw, rfl⟩ := List.mem_map.mp hx
      rw [q w hw] at z
      cases z
      rfl), List.drop_zero]
    exact key
theorem comp_its_all {tg : Tg} {own : List Nat} {el e : Ex} {env : Env} {v : Vl} {ws : List Nat} (k : Nat → Vl) (he : evE G cf e env h = .ok v h) (i : Its h v ws) (hz : ws.length < fuelW)
    (q : ∀ w ∈ ws, turnC G cf tg own .noe el env (iv w) h = .ok (some (k w)) h) : evF G cf (.comp own tg (.over e) .noe el) env h = .ok (ws.map k) h := by
  have := comp_its (own := own) (el := el) (tg := tg) (c := .noe) (fun _ => true) k he i hz q
  rwa [List.filter_eq_self.mpr (fun _ _ => rfl)] at this
end
end Law
set_option Elab.async false
set_option linter.all false
set_option maxRecDepth 100000
set_option maxHeartbeats 1000000
namespace Law
open Mi Gf
mutual
theorem wfV_mono {n m : Nat} (h : n ≤ m) : ∀ {v : Vl}, wfV n v = true → wfV m v = true
  | .non, _ => rfl
  | .bl _, _ => rfl
  | .int _, _ => rfl
  | .str _, _ => rfl
  | .tup xs, e => by unfold wfV at e ⊢; exact wfL_mono h e
  | .lst xs, e => by unfold wfV at e ⊢; exact wfL_mono h e
  | .scr xs, e => by unfold wfV at e ⊢; exact wfL_mono h e
  | .dct xs, e => by unfold wfV at e ⊢; exact wfL_mono h e
  | .ins _ xs, e => by unfold wfV at e ⊢; exact wfL_mono h e
  | .ref k, e => by
    unfold wfV at e ⊢
    exact decide_eq_true (Nat.lt_of_lt_of_le (of_decide_eq_true e) h)
  | .fn _, _ => rfl
  | .clo _, e => by unfold wfV at e; cases e
theorem wfL_mono {n m : Nat} (h : n ≤ m) : ∀ {xs : List Vl}, wfL n xs = true → wfL m xs = true
  | [], _ => by simp [wfL]
  | x :: r, e => by
    unfold wfL at e ⊢
    cases hx : wfV n x with
    | false => rw [hx] at e; cases e
    | true =>
      rw [hx] at e
      rw [wfV_mono h hx]
      exact wfL_mono h e
end
theorem wfK_mono {n m : Nat} (h : n ≤ m) : ∀ {kvs : List (Vl × Vl)}, wfK n kvs = true → wfK m kvs = true
  | [], _ => rfl
  | (a, x) :: r, e => by
    unfold wfK at e ⊢
    cases ha : wfV n a with
    | false => rw [ha] at e; cases e
    | true =>
      rw [ha] at e
      dsimp only at e
      cases hx : wfV n x with
      | false => rw [hx] at e; cases e
      | true =>
        rw [hx] at e
        rw [wfV_mono h ha, wfV_mono h hx]
        exact wfK_mono h e
theorem wfF_mono {n m : Nat} (h : n ≤ m) : ∀ {xs : List (Option Vl)}, wfF n xs = true → wfF m xs = true
  | [], _ => rfl
  | none :: r, e => wfF_mono (xs := r) h e
  | some x :: r, e => by
    unfold wfF at e ⊢
    cases hx : wfV n x with
    | false => rw [hx] at e; cases e
    | true =>
      rw [hx] at e
      rw [wfV_mono h hx]
      exact wfF_mono h e
theorem wfO_mono {n m : Nat} (h : n ≤ m) {o : Ob} (e : wfO n o = true) : wfO m o = true := by
  cases o with
  | lst xs => exact wfL_mono (xs := xs) h e
  | dct kvs => exact wfK_mono (kvs := kvs) h e
  | ins c xs => exact wfF_mono (xs := xs) h e
theorem wfH_mono {n m : Nat} (h : n ≤ m) : ∀ {hh : Hh}, wfH n hh = true → wfH m hh = true
  | [], _ => rfl
  | o :: r, e => by
    unfold wfH at e ⊢
    cases ho : wfO n o with
    | false => rw [ho] at e; cases e
    | true =>
      rw [ho] at e
      rw [wfO_mono h ho]
      exact wfH_mono h e
theorem wfH_app {n : Nat} : ∀ {hh : Hh} {o : Ob}, wfH n hh = true → wfO n o = true → wfH n (hh ++ [o]) = true
  | [], o, _, e => by
    show (match wfO n o with
      | true => wfH n []
      | false => false) = true
    rw [e]
    rfl
  | p :: r, o, h, e => by
    unfold wfH at h
    show (match wfO n p with
      | true => wfH n (r ++ [o])
      | false => false) = true
    cases hp : wfO n p with
    | false => rw [hp] at h; cases h
    | true =>
      rw [hp] at h
      exact wfH_app h e
def Wf (h : Hh) : Prop := wfH h.length h = true
theorem Wf.app {h : Hh} (w : Wf h) {o : Ob} (e : wfO (h.length + 1) o = true) : Wf (h ++ [o]) := by
  unfold Wf
  rw [List.length_append, List.length_singleton]
  exact wfH_app (wfH_mono (Nat.le_succ _) w) e
theorem Wf.words {h : Hh} (w : Wf h) (ws : List Nat) : Wf (h ++ [.lst (ws.map iv)]) := w.app (wfL_iv _ ws)
section
variable {n : Nat} {h : Hh}
theorem end_val (o : Ob) {v : Vl} (hw : Wf h) (hv : frV (h ++ [o]) h.length 30 v = some v) (hv2 : wfV h.length v = true) : endF true h.length (.ok (.rt v) (h ++ [o])) = .ok v h := by
  have hd : decide ((h ++ [o]).length ≤ h.length) = false := by
    rw [decide_eq_false]
    rw [List.length_append, List.length_singleton]
    omega
  unfold endF fin
  dsimp only
  rw [hd]
  dsimp only
  rw [hv]
  dsimp only
  rw [hv2, take_app, show wfH h.length h = true from hw]
theorem fr_tup (h : Hh) (n0 : Nat) (ws : List Nat) : frV h n0 30 (.tup (ws.map iv)) = some (.tup (ws.map iv)) := by
  show (match mapO (frV h n0 29) (ws.map iv) with
    | some l => some (Vl.tup l)
    | none => none) = _
  rw [mapO_iv _ _ 28]
theorem wf_tup (n0 : Nat) (ws : List Nat) : wfV n0 (.tup (ws.map iv)) = true := by simp only [wfV, wfL_iv]
theorem end_tup (o : Ob) (ws : List Nat) (hw : Wf h) : endF true h.length (.ok (.rt (.tup (ws.map iv))) (h ++ [o])) = .ok (.tup (ws.map iv)) h := end_val o hw (fr_tup _ _ _) (wf_tup _ _)
theorem q_basis {v : Vl} {ws : List Nat} (i : Its h v ws) (hw : ∀ w ∈ ws, w < 2 ^ 24) (hz : ws.length ≤ 100000) : run GG FF (n + 4) 10 [v] h = .ok (.tup ((basis ws).map iv)) h := by
  refine run_ret (d := f10) rfl rfl ?_
  show evS GG (run GG FF (n + 3)) (.seq (.set 1 (.tup .anil)) (.seq (.fors (.n 2) (.over (.var 0)) (.set 1 (.call 9 (.acons (.var 1) (.acons (.var 2) .anil))))) (.ret (.var 1)))) [some v, none, none] h = _
  have hfu : ws.length < fuelW := by
    have : (100000 : Nat) < fuelW := by decide
    omega
  have h0 : decide (([] : List Vl).length ≤ line) = true := by decide
  have q := for_its (G := GG) (cf := run GG FF (n + 3)) (tg := .n 2) (b := (.set 1 (.call 9 (.acons (.var 1) (.acons (.var 2) .anil))))) (e := .var 0) (env := [some v, some (.tup []), none]) (h := h) (v := v) (ws := ws) rfl i hfu
    (fun s : List Nat × Option Vl => [some v, some (.tup (s.1.map iv)), s.2]) (fun s w => (withW s.1 w, some (iv w))) (fun s => BasN 24 s.1) ([], none) rfl (basN_nil 24) (fun w hw' s B => by
      have hlen : s.1.length + 1 ≤ line := by rw [line_pow]; exact B.len
      refine ⟨?_, B.more (hw w hw')⟩
      unfold turnF
      simp only [evS, evE, evA, evF, evW, part1, part0, evC, List.getElem?_cons_zero, List.getElem?_cons_succ, putE, List.set_cons_zero, List.set_cons_succ, tgV, putEs, wipeE, walkC, walkF, bnd_ok', lift_some, bndS_nx, bndS_rt, iv_xor, iv_and, iv_add, iv_axor, iv_aadd, iv_eq, iv_ne, iv_lt, iv_gt, iv_le, tru_bl, int0, int1, int2, r12 s.1 (fun b hb => B.bas.red.pos b hb) hlen])
  have f : ∀ (l : List Nat) (s : List Nat × Option Vl), (l.foldl (fun s w => (withW s.1 w, some (iv w))) s).1 = basisF s.1 l := by
    intro l
    induction l with
    | nil => intro s; rfl
    | cons b l ih => intro s; exact ih _
  rw [ev_seq]
  have s1 : evS GG (run GG FF (n + 3)) (.set 1 (.tup .anil)) [some v, none, none] h = .ok (.nx [some v, some (.tup []), none]) h := by
    simp only [evS, evE, evA, evF, evW, part1, part0, evC, List.getElem?_cons_zero, List.getElem?_cons_succ, putE, List.set_cons_zero, List.set_cons_succ, tgV, putEs, wipeE, walkC, walkF, bnd_ok', lift_some, bndS_nx, bndS_rt, iv_xor, iv_and, iv_add, iv_axor, iv_aadd, iv_eq, iv_ne, iv_lt, iv_gt, iv_le, tru_bl, int0, int1, int2, h0]
  rw [s1, bndS_nx, ev_seq, q, bndS_nx]
  simp only [evS, evE, evA, evF, evW, part1, part0, evC, List.getElem?_cons_zero, List.getElem?_cons_succ, putE, List.set_cons_zero, List.set_cons_succ, tgV, putEs, wipeE, walkC, walkF, bnd_ok', lift_some, bndS_nx, bndS_rt, iv_xor, iv_and, iv_add, iv_axor, iv_aadd, iv_eq, iv_ne, iv_lt, iv_gt, iv_le, tru_bl, int0, int1, int2, f]
  rfl
theorem q_word {v : Vl} {ps : List Nat} (i : Its h v ps) (hp : ∀ p ∈ ps, p ≤ 1000) (hz : ps.length ≤ 1000) : run GG FF (n + 1) 7 [v] h = .ok (iv (ps.map (2 ^ ·)).sum) h := by
  refine run_ret (d := f7) rfl rfl ?_
  show evS GG (run GG FF n) (.ret (.bif .sum (.acons (.fz (.comp [1] (.n 1) (.over (.var 0)) .noe (.bin .shl (.int 1) (.var 1)))) .anil))) [some v, none] h = _
  have hfu : ps.length < fuelW := by
    have : (1000 : Nat) < fuelW := by decide
    omega
  have c : evF GG (run GG FF n) (.comp [1] (.n 1) (.over (.var 0)) .noe (.bin .shl (.int 1) (.var 1))) [some v, none] h = .ok (ps.map fun p => iv (2 ^ p)) h := by
    refine comp_its_all (fun p => iv (2 ^ p)) rfl i hfu fun p hp' => ?_
    unfold turnC
    simp only [evS, evE, evA, evF, evW, part1, part0, evC, List.getElem?_cons_zero, List.getElem?_cons_succ, putE, List.set_cons_zero, List.set_cons_succ, tgV, putEs, wipeE, walkC, walkF, bnd_ok', lift_some, bndS_nx, bndS_rt, iv_xor, iv_and, iv_add, iv_axor, iv_aadd, iv_eq, iv_ne, iv_lt, iv_gt, iv_le, tru_bl, int0, int1, int2, o_shl (hp p hp')]
  have e : ps.map (fun p => iv (2 ^ p)) = (ps.map (2 ^ ·)).map iv := by rw [List.map_map]; rfl
  show bnd (bnd (bnd (bnd (evF GG (run GG FF n) (.comp [1] (.n 1) (.over (.var 0)) .noe (.bin .shl (.int 1) (.var 1))) [some v, none] h) _) _) _) _ = _
  rw [c, bnd_ok']
  simp only [evS, evE, evA, evF, evW, part1, part0, evC, List.getElem?_cons_zero, List.getElem?_cons_succ, putE, List.set_cons_zero, List.set_cons_succ, tgV, putEs, wipeE, walkC, walkF, bnd_ok', lift_some, bndS_nx, bndS_rt, iv_xor, iv_and, iv_add, iv_axor, iv_aadd, iv_eq, iv_ne, iv_lt, iv_gt, iv_le, tru_bl, int0, int1, int2, bifV, arg1, ofInts, lstOf, e, ints_iv, sumI_iv]
  rfl
theorem q_word' {v : Vl} {ps : List Nat} (i : Its h v ps) (hp : ∀ p ∈ ps, p ≤ 1000) (hz : ps.length ≤ 1000) (nd : ps.Nodup) : run GG FF (n + 1) 7 [v] h = .ok (iv (xorP ps)) h := by
  rw [q_word i hp hz, sum_xorP nd]
end
end Law
set_option Elab.async false
set_option linter.all false
set_option maxRecDepth 100000
set_option maxHeartbeats 1000000
namespace Law
open Mi Gf
section
variable {n : Nat} {h : Hh}
theorem bas_le {l : Nat} {bs : List Nat} (B : BasN l bs) : bs.length ≤ l := by
  have := bas_len B
  omega
theorem bas_pos {l : Nat} {bs : List Nat} (B : BasN l bs) : ∀ b ∈ bs, b ≠ 0 := B.bas.red.pos
theorem chk_word {l f : Nat} {bs : List Nat} (B : BasN l bs) (hl : l ≤ 24) (hf : f ∈ free l bs) : run GG FF (n + 1) 7 [.lst ((f :: (bs.filter fun b => b.testBit f).map Nat.log2).map iv)] h = .ok (iv (chk bs f)) h := by
  have hlen := bas_le B
  refine q_word' its_lst (fun p hp => ?_) ?_ (chk_nd B.bas.red hf)
  · rcases List.mem_cons.mp hp with rfl | hp
    · have := (mem_free.mp hf).1
      omega
    · obtain ⟨b, hb, rfl⟩ := List.mem_map.mp hp
      have := head_lt B (List.mem_filter.mp hb).1
      omega
  · rw [List.length_cons, List.length_map]
    have := List.length_filter_le (fun b => b.testBit f) bs
    omega
theorem app_at {h : Hh} {xs : List Vl} {y : Vl} (hz : xs.length < line) : mthV .append (h ++ [.lst xs]) (.ref h.length) [y] = .ok .non (h ++ [.lst (xs ++ [y])]) := by
  show (match (h ++ [Ob.lst xs])[h.length]? with
    | some (.lst l) => if l.length < line then R.ok Vl.non ((h ++ [Ob.lst xs]).set h.length (.lst (l ++ [y]))) else .bad
    | _ => .bad) = _
  rw [get_last]
  dsimp only
  rw [if_pos hz, set_last]
theorem rcv_at {h : Hh} {xs : List Vl} : rcv .append (h ++ [.lst xs]) (.ref h.length) = true := by
  show (match (h ++ [Ob.lst xs])[h.length]? with
    | some (.lst _) => true
    | _ => false) = true
  rw [get_last]
theorem chk_turn {l f : Nat} {bs : List Nat} (B : BasN l bs) (hl : l ≤ 24) (hf : f ∈ free l bs) {fs : List Nat} (hz : fs.length ≤ 1000) {L : Option Vl} {x4 : Option Vl} :
    evS GG (run GG FF (n + 4)) (.ex (.mth .append (.var 2) (.acons (.call 7 (.acons (.fz (.disp (.acons (.var 3) (.astar (.fz (.comp [4] (.n 4) (.over (.var 1)) (.sm (.call 6 (.acons (.var 4) (.acons (.var 3) .anil)))) (.call 5 (.acons (.var 4) .anil)))) .anil)))) .anil)) .anil))) [L, some (.tup (bs.map iv)), some (.ref h.length), some (iv f), x4] (h ++ [.lst ((fs.map (chk bs)).map iv)]) = .ok (.nx [L, some (.tup (bs.map iv)), some (.ref h.length), some (iv f), x4]) (h ++ [.lst (((fs ++ [f]).map (chk bs)).map iv)]) := by
  have big := line_big
  have hlen := bas_le B
  have c : evF GG (run GG FF (n + 4)) (.comp [4] (.n 4) (.over (.var 1)) (.sm (.call 6 (.acons (.var 4) (.acons (.var 3) .anil)))) (.call 5 (.acons (.var 4) .anil))) [L, some (.tup (bs.map iv)), some (.ref h.length), some (iv f), x4] (h ++ [.lst ((fs.map (chk bs)).map iv)]) = .ok ((bs.filter fun b => b.testBit f).map fun b => iv b.log2) (h ++ [.lst ((fs.map (chk bs)).map iv)]) := by
    refine comp_its (fun b => b.testBit f) (fun b => iv b.log2) rfl its_tup (show bs.length < 1000000 by omega) fun b hb => ?_
    unfold turnC
    simp only [evS, evE, evA, evF, evW, part1, part0, evC, List.getElem?_cons_zero, List.getElem?_cons_succ, putE, List.set_cons_zero, List.set_cons_succ, tgV, putEs, wipeE, walkC, walkF, bnd_ok', lift_some, bndS_nx, bndS_rt, iv_xor, iv_and, iv_add, iv_axor, iv_aadd, iv_eq, iv_ne, iv_lt, iv_gt, iv_le, tru_bl, int0, int1, int2, r8, r7 b (bas_pos B b hb)]
    cases b.testBit f with
    | true => simp only [evS, evE, evA, evF, evW, part1, part0, evC, List.getElem?_cons_zero, List.getElem?_cons_succ, putE, List.set_cons_zero, List.set_cons_succ, tgV, putEs, wipeE, walkC, walkF, bnd_ok', lift_some, bndS_nx, bndS_rt, iv_xor, iv_and, iv_add, iv_axor, iv_aadd, iv_eq, iv_ne, iv_lt, iv_gt, iv_le, tru_bl, int0, int1, int2, if_true]
    | false => simp only [evS, evE, evA, evF, evW, part1, part0, evC, List.getElem?_cons_zero, List.getElem?_cons_succ, putE, List.set_cons_zero, List.set_cons_succ, tgV, putEs, wipeE, walkC, walkF, bnd_ok', lift_some, bndS_nx, bndS_rt, iv_xor, iv_and, iv_add, iv_axor, iv_aadd, iv_eq, iv_ne, iv_lt, iv_gt, iv_le, tru_bl, int0, int1, int2, Bool.false_eq_true, if_false]
  have d : evE GG (run GG FF (n + 4)) (.fz (.disp (.acons (.var 3) (.astar (.fz (.comp [4] (.n 4) (.over (.var 1)) (.sm (.call 6 (.acons (.var 4) (.acons (.var 3) .anil)))) (.call 5 (.acons (.var 4) .anil)))) .anil)))) [L, some (.tup (bs.map iv)), some (.ref h.length), some (iv f), x4] (h ++ [.lst ((fs.map (chk bs)).map iv)]) = .ok (.lst ((f :: (bs.filter fun b => b.testBit f).map Nat.log2).map iv)) (h ++ [.lst ((fs.map (chk bs)).map iv)]) := by
    have e1 : ((bs.filter fun b => b.testBit f).map fun b => iv b.log2) = ((bs.filter fun b => b.testBit f).map Nat.log2).map iv := by rw [List.map_map]; rfl
    have hn : decide ((iv f :: (((bs.filter fun b => b.testBit f).map Nat.log2).map iv)).length ≤ line) = true := by
      refine decide_eq_true ?_
      rw [List.length_cons, List.length_map, List.length_map]
      have := List.length_filter_le (fun b => b.testBit f) bs
      omega
    rw [e1] at c
    simp only [c, evS, evE, evA, f_disp, f_cat, f_listof, f_srt, evW, part1, part0, evC, List.getElem?_cons_zero, List.getElem?_cons_succ, putE, List.set_cons_zero, List.set_cons_succ, tgV, putEs, wipeE, walkC, walkF, bnd_ok', lift_some, bndS_nx, bndS_rt, iv_xor, iv_and, iv_add, iv_axor, iv_aadd, iv_eq, iv_ne, iv_lt, iv_gt, iv_le, tru_bl, int0, int1, int2, seqOf, List.append_nil, hn]
    rfl
  have hz2 : ((fs.map (chk bs)).map iv).length < line := by
    rw [List.length_map, List.length_map]
    omega
  have a := app_at (h := h) (y := iv (chk bs f)) hz2
  have e2 : (fs.map (chk bs)).map iv ++ [iv (chk bs f)] = ((fs ++ [f]).map (chk bs)).map iv := by
    rw [List.map_append, List.map_append]
    rfl
  rw [e2] at a
  have d2 : evA GG (run GG FF (n + 4)) (.acons (.fz (.disp (.acons (.var 3) (.astar (.fz (.comp [4] (.n 4) (.over (.var 1)) (.sm (.call 6 (.acons (.var 4) (.acons (.var 3) .anil)))) (.call 5 (.acons (.var 4) .anil)))) .anil)))) .anil) [L, some (.tup (bs.map iv)), some (.ref h.length), some (iv f), x4] (h ++ [.lst ((fs.map (chk bs)).map iv)]) = .ok [.lst ((f :: (bs.filter fun b => b.testBit f).map Nat.log2).map iv)] (h ++ [.lst ((fs.map (chk bs)).map iv)]) := by
    show bnd (evE GG (run GG FF (n + 4)) (.fz (.disp (.acons (.var 3) (.astar (.fz (.comp [4] (.n 4) (.over (.var 1)) (.sm (.call 6 (.acons (.var 4) (.acons (.var 3) .anil)))) (.call 5 (.acons (.var 4) .anil)))) .anil)))) _ _) _ = _
    rw [d]
    rfl
  have d3 : evE GG (run GG FF (n + 4)) (.call 7 (.acons (.fz (.disp (.acons (.var 3) (.astar (.fz (.comp [4] (.n 4) (.over (.var 1)) (.sm (.call 6 (.acons (.var 4) (.acons (.var 3) .anil)))) (.call 5 (.acons (.var 4) .anil)))) .anil)))) .anil)) [L, some (.tup (bs.map iv)), some (.ref h.length), some (iv f), x4] (h ++ [.lst ((fs.map (chk bs)).map iv)]) = .ok (iv (chk bs f)) (h ++ [.lst ((fs.map (chk bs)).map iv)]) := by
    show bnd (evA GG (run GG FF (n + 4)) (.acons (.fz (.disp (.acons (.var 3) (.astar (.fz (.comp [4] (.n 4) (.over (.var 1)) (.sm (.call 6 (.acons (.var 4) (.acons (.var 3) .anil)))) (.call 5 (.acons (.var 4) .anil)))) .anil)))) .anil) _ _) _ = _
    rw [d2, bnd_ok']
    exact chk_word (n := n + 3) B hl hf
  show bnd (bnd (R.ok (Vl.ref h.length) (h ++ [.lst ((fs.map (chk bs)).map iv)])) fun x h' => match rcv .append h' x with
    | true => bnd (bnd (evE GG (run GG FF (n + 4)) (.call 7 (.acons (.fz (.disp (.acons (.var 3) (.astar (.fz (.comp [4] (.n 4) (.over (.var 1)) (.sm (.call 6 (.acons (.var 4) (.acons (.var 3) .anil)))) (.call 5 (.acons (.var 4) .anil)))) .anil)))) .anil)) [L, some (.tup (bs.map iv)), some (.ref h.length), some (iv f), x4] h') fun x h => bnd (R.ok [] h) fun xs h => R.ok (x :: xs) h) fun xs h => mthV .append h x xs
    | false => .bad) _ = _
  rw [bnd_ok', rcv_at]
  dsimp only
  rw [d3, bnd_ok', bnd_ok', bnd_ok', a]
  rfl
theorem q_checks {l : Nat} {bs : List Nat} (B : BasN l bs) (hl : l ≤ 24) (hw : Wf h) : run GG FF (n + 5) 13 [iv l, .tup (bs.map iv)] h = .ok (.tup ((dualB l bs).map iv)) h := by
  have big := line_big
  have hlen := bas_le B
  have s1 : evS GG (run GG FF (n + 4)) (.set 2 (.th (.disp .anil))) [some (iv l), some (.tup (bs.map iv)), none, none, none] h = .ok (.nx [some (iv l), some (.tup (bs.map iv)), some (.ref h.length), none, none]) (h ++ [.lst ((([] : List Nat).map (chk bs)).map iv)]) := by
    have h0 : decide (([] : List Vl).length ≤ line) = true := decide_eq_true (Nat.zero_le _)
    simp only [evS, evE, evA, evF, evW, part1, part0, evC, List.getElem?_cons_zero, List.getElem?_cons_succ, putE, List.set_cons_zero, List.set_cons_succ, tgV, putEs, wipeE, walkC, walkF, bnd_ok', lift_some, bndS_nx, bndS_rt, iv_xor, iv_and, iv_add, iv_axor, iv_aadd, iv_eq, iv_ne, iv_lt, iv_gt, iv_le, tru_bl, int0, int1, int2, h0]
    rfl
  obtain ⟨env', h', e, x3, rfl, rfl⟩ := for_pre (G := GG) (cf := run GG FF (n + 4)) (tg := .n 3) (b := (.ex (.mth .append (.var 2) (.acons (.call 7 (.acons (.fz (.disp (.acons (.var 3) (.astar (.fz (.comp [4] (.n 4) (.over (.var 1)) (.sm (.call 6 (.acons (.var 4) (.acons (.var 3) .anil)))) (.call 5 (.acons (.var 4) .anil)))) .anil)))) .anil)) .anil)))) (g := iv) (xs := free l bs) (env := [some (iv l), some (.tup (bs.map iv)), some (.ref h.length), none, none]) (h := h ++ [.lst ((([] : List Nat).map (chk bs)).map iv)])
    (fun pre env h' => ∃ x3 : Option Vl, env = [some (iv l), some (.tup (bs.map iv)), some (.ref h.length), x3, none] ∧ h' = h ++ [.lst ((pre.map (chk bs)).map iv)]) ⟨none, rfl, rfl⟩
    (fun pre f post ex env h' i => by
      obtain ⟨x3, rfl, rfl⟩ := i
      have hf : f ∈ free l bs := by rw [ex]; exact List.mem_append_right _ List.mem_cons_self
      have hpre : pre.length ≤ 1000 := by
        have h1 := congrArg List.length ex
        have h2 := bas_len B
        rw [List.length_append] at h1
        omega
      exact ⟨_, _, _, rfl, chk_turn (n := n) B hl hf hpre, some (iv f), rfl, rfl⟩)
  have s2 : evW GG (run GG FF (n + 4)) (.over (.call 12 (.acons (.var 0) (.acons (.var 1) .anil)))) [some (iv l), some (.tup (bs.map iv)), some (.ref h.length), none, none] (h ++ [.lst ((([] : List Nat).map (chk bs)).map iv)]) = .ok (.its ((free l bs).map iv)) (h ++ [.lst ((([] : List Nat).map (chk bs)).map iv)]) := by
    have r := r15 (n := n + 1) (h := h ++ [.lst ((([] : List Nat).map (chk bs)).map iv)]) l (by omega) bs (bas_pos B) (by omega)
    simp only [evS, evE, evA, evF, evW, part1, part0, evC, List.getElem?_cons_zero, List.getElem?_cons_succ, putE, List.set_cons_zero, List.set_cons_succ, tgV, putEs, wipeE, walkC, walkF, bnd_ok', lift_some, bndS_nx, bndS_rt, iv_xor, iv_and, iv_add, iv_axor, iv_aadd, iv_eq, iv_ne, iv_lt, iv_gt, iv_le, tru_bl, int0, int1, int2, r]
    rfl
  have hc : ∀ c ∈ chks l bs, c < 2 ^ 24 := fun c hc => Nat.lt_of_lt_of_le (chks_lt B c hc) (Nat.pow_le_pow_right (by decide) hl)
  have hcl : (chks l bs).length ≤ 100000 := by
    unfold chks
    rw [List.length_map]
    have := bas_len B
    omega
  have s3 := q_basis (n := n) (h := h ++ [.lst ((chks l bs).map iv)]) (v := .ref h.length) (ws := chks l bs) (its_ref (get_last _ _)) hc hcl
  have e3 : evS GG (run GG FF (n + 4)) (.seq (.set 2 (.th (.disp .anil))) (.seq (.fors (.n 3) (.over (.call 12 (.acons (.var 0) (.acons (.var 1) .anil)))) (.ex (.mth .append (.var 2) (.acons (.call 7 (.acons (.fz (.disp (.acons (.var 3) (.astar (.fz (.comp [4] (.n 4) (.over (.var 1)) (.sm (.call 6 (.acons (.var 4) (.acons (.var 3) .anil)))) (.call 5 (.acons (.var 4) .anil)))) .anil)))) .anil)) .anil)))) (.ret (.call 10 (.acons (.var 2) .anil))))) [some (iv l), some (.tup (bs.map iv)), none, none, none] h = .ok (.rt (.tup ((dualB l bs).map iv))) (h ++ [.lst ((chks l bs).map iv)]) := by
    rw [ev_seq, s1, bndS_nx, ev_seq, ev_fors, s2, bnd_ok']
    show bndS (forL _ _ _ _) _ = _
    rw [e, bndS_nx]
    show evS GG (run GG FF (n + 4)) (.ret (.call 10 (.acons (.var 2) .anil))) _ (h ++ [.lst ((chks l bs).map iv)]) = _
    simp only [evS, evE, evA, evF, evW, part1, part0, evC, List.getElem?_cons_zero, List.getElem?_cons_succ, putE, List.set_cons_zero, List.set_cons_succ, tgV, putEs, wipeE, walkC, walkF, bnd_ok', lift_some, bndS_nx, bndS_rt, iv_xor, iv_and, iv_add, iv_axor, iv_aadd, iv_eq, iv_ne, iv_lt, iv_gt, iv_le, tru_bl, int0, int1, int2, s3]
    rfl
  rw [run_eq (d := f13) rfl rfl]
  show endF true h.length (evS GG (run GG FF (n + 4)) (.seq (.set 2 (.th (.disp .anil))) (.seq (.fors (.n 3) (.over (.call 12 (.acons (.var 0) (.acons (.var 1) .anil)))) (.ex (.mth .append (.var 2) (.acons (.call 7 (.acons (.fz (.disp (.acons (.var 3) (.astar (.fz (.comp [4] (.n 4) (.over (.var 1)) (.sm (.call 6 (.acons (.var 4) (.acons (.var 3) .anil)))) (.call 5 (.acons (.var 4) .anil)))) .anil)))) .anil)) .anil)))) (.ret (.call 10 (.acons (.var 2) .anil))))) [some (iv l), some (.tup (bs.map iv)), none, none, none] h) = _
  rw [e3]
  exact end_tup _ _ hw
theorem q_meet {l : Nat} {as bs : List Nat} (A : BasN l as) (B : BasN l bs) (hl : l ≤ 24) (hw : Wf h) : run GG FF (n + 6) 14 [iv l, .tup (as.map iv), .tup (bs.map iv)] h = .ok (.tup ((meetB l as bs).map iv)) h := by
  refine run_ret (d := f14) rfl rfl ?_
  show evS GG (run GG FF (n + 5)) (.ret (.call 13 (.acons (.var 0) (.acons (.call 10 (.acons (.bin .add (.call 13 (.acons (.var 0) (.acons (.var 1) .anil))) (.call 13 (.acons (.var 0) (.acons (.var 2) .anil)))) .anil)) .anil)))) [some (iv l), some (.tup (as.map iv)), some (.tup (bs.map iv))] h = _
  have big := line_big
  have h1 := bas_le (dual_basN A)
  have h2 := bas_le (dual_basN B)
  have c : binV .add h (.tup ((dualB l as).map iv)) (.tup ((dualB l bs).map iv)) = some (.tup ((dualB l as ++ dualB l bs).map iv)) := by
    show (if ((dualB l as).map iv).length + ((dualB l bs).map iv).length ≤ line then some (Vl.tup ((dualB l as).map iv ++ (dualB l bs).map iv)) else none) = _
    rw [if_pos (by rw [List.length_map, List.length_map]; omega), List.map_append]
  have hlt : ∀ w ∈ dualB l as ++ dualB l bs, w < 2 ^ 24 := fun w hw => by
    rcases List.mem_append.mp hw with z | z
    · exact Nat.lt_of_lt_of_le ((dual_basN A).lt w z) (Nat.pow_le_pow_right (by decide) hl)
    · exact Nat.lt_of_lt_of_le ((dual_basN B).lt w z) (Nat.pow_le_pow_right (by decide) hl)
  have q := q_basis (n := n + 1) (h := h) (v := .tup ((dualB l as ++ dualB l bs).map iv)) its_tup hlt (by rw [List.length_append]; omega)
  simp only [evS, evE, evA, evF, evW, part1, part0, evC, List.getElem?_cons_zero, List.getElem?_cons_succ, putE, List.set_cons_zero, List.set_cons_succ, tgV, putEs, wipeE, walkC, walkF, bnd_ok', lift_some, bndS_nx, bndS_rt, iv_xor, iv_and, iv_add, iv_axor, iv_aadd, iv_eq, iv_ne, iv_lt, iv_gt, iv_le, tru_bl, int0, int1, int2, q_checks A hl hw, q_checks B hl hw, c, q, q_checks (sum_basN A B) hl hw]
  rfl
end
end Law
set_option Elab.async false
set_option linter.all false
set_option maxRecDepth 100000
set_option maxHeartbeats 1000000
namespace Law
open Mi Gf
def code (l : Nat) (bs : List Nat) : Vl := .ins 0 [.tup (bs.map iv), iv l]
section
variable {n : Nat} {h : Hh} {cf : CF}
theorem at_len {l : Nat} {bs : List Nat} : attrR GG cf 1 (code l bs) h = .ok (iv l) h := rfl
theorem at_bas {l : Nat} {bs : List Nat} : attrR GG cf 0 (code l bs) h = .ok (.tup (bs.map iv)) h := rfl
theorem set_codes {l : Nat} {v : Vl} : setFs GG (h ++ [.ins 0 [none, none]]) (.ref h.length) [1, 0] [iv l, v] = some (h ++ [.ins 0 [some v, some (iv l)]]) := by
  have e1 : setF GG (h ++ [.ins 0 [none, none]]) (.ref h.length) 1 (iv l) = some (h ++ [.ins 0 [none, some (iv l)]]) := by
    unfold setF
    dsimp only
    rw [get_last]
    dsimp only
    rw [show GG.at_ 0 1 = some (.inl 1) from rfl]
    dsimp only
    rw [if_pos (show 1 < ([none, none] : List (Option Vl)).length by decide), set_last]
    rfl
  have e2 : setF GG (h ++ [.ins 0 [none, some (iv l)]]) (.ref h.length) 0 v = some (h ++ [.ins 0 [some v, some (iv l)]]) := by
    unfold setF
    dsimp only
    rw [get_last]
    dsimp only
    rw [show GG.at_ 0 0 = some (.inl 0) from rfl]
    dsimp only
    rw [if_pos (show 0 < ([none, some (iv l)] : List (Option Vl)).length by exact Nat.zero_lt_succ 1), set_last]
    rfl
  show (match setF GG (h ++ [.ins 0 [none, none]]) (.ref h.length) 1 (iv l) with
    | some h' => setFs GG h' (.ref h.length) [0] [v]
    | none => none) = _
  rw [e1]
  show (match setF GG (h ++ [.ins 0 [none, some (iv l)]]) (.ref h.length) 0 v with
    | some h' => setFs GG h' (.ref h.length) [] []
    | none => none) = _
  rw [e2]
  rfl
theorem q_init {l : Nat} {ws : List Nat} (T : Told l ws) : run GG FF (n + 5) 44 [.ref h.length, iv l, .tup (ws.map iv)] (h ++ [.ins 0 [none, none]]) = .ok .non (h ++ [.ins 0 [some (.tup ((basis ws).map iv)), some (iv l)]]) := by
  have hlen : (h ++ [Ob.ins 0 [some (.tup ((basis ws).map iv)), some (iv l)]]).length ≤ (h ++ [Ob.ins 0 [none, none]]).length := by simp
  have sc := set_codes (h := h) (l := l) (v := .tup ((basis ws).map iv))
  have q := q_basis (n := n) (h := h ++ [.ins 0 [none, none]]) (v := .tup (ws.map iv)) its_tup T.lt24 (by have := T.len; omega)
  have e : evS GG (run GG FF (n + 4)) (.seq (.ex (.call 15 (.acons (.var 1) .anil))) (.seq (.ex (.call 16 (.acons (.var 1) (.acons (.var 2) .anil)))) (.parf 0 [1, 0] (.acons (.var 1) (.acons (.call 10 (.acons (.var 2) .anil)) .anil))))) [some (.ref h.length), some (iv l), some (.tup (ws.map iv))] (h ++ [.ins 0 [none, none]]) = .ok (.nx [some (.ref h.length), some (iv l), some (.tup (ws.map iv))]) (h ++ [.ins 0 [some (.tup ((basis ws).map iv)), some (iv l)]]) := by
    generalize h ++ [Ob.ins 0 [none, none]] = g at *
    simp only [evS, evE, evA, evF, evW, part1, part0, evC, List.getElem?_cons_zero, List.getElem?_cons_succ, putE, List.set_cons_zero, List.set_cons_succ, tgV, putEs, wipeE, walkC, walkF, bnd_ok', lift_some, bndS_nx, bndS_rt, iv_xor, iv_and, iv_add, iv_axor, iv_aadd, iv_eq, iv_ne, iv_lt, iv_gt, iv_le, tru_bl, int0, int1, int2, r17 (n := n + 1) l T.one T.most, r19 (n := n) l (Nat.le_trans T.most (by decide)) ws T.lt T.len, q, sc]
  have hf : FF 44 = some f44 := rfl
  exact run_nx2 (n := n + 4) hf rfl e hlen
theorem q_mk {l : Nat} {ws : List Nat} (T : Told l ws) (hw : Wf h) {as : Ex} {env : Env} {h0 : Hh} (ea : evA GG (run GG FF (n + 5)) as env h0 = .ok [iv l, .tup (ws.map iv)] h) : evE GG (run GG FF (n + 5)) (.mk 0 as) env h0 = .ok (code l (basis ws)) h := by
  show bnd (evA GG (run GG FF (n + 5)) as env h0) (fun xs h => bnd (run GG FF (n + 5) 44 (.ref h.length :: xs) (h ++ [.ins 0 [none, none]])) fun v h' => made 0 h.length v h') = _
  rw [ea, bnd_ok', q_init T, bnd_ok']
  unfold made
  dsimp only
  rw [decide_eq_true (show (h ++ [Ob.ins 0 [some (.tup ((basis ws).map iv)), some (iv l)]]).length = h.length + 1 by rw [List.length_append]; rfl)]
  dsimp only
  rw [get_last]
  dsimp only
  rw [decide_eq_true rfl]
  show (match wfL h.length [.tup ((basis ws).map iv), iv l] with
    | true => match wfH h.length ((h ++ [Ob.ins 0 [some (.tup ((basis ws).map iv)), some (iv l)]]).take h.length) with
      | true => R.ok (Vl.ins 0 [.tup ((basis ws).map iv), iv l]) ((h ++ [Ob.ins 0 [some (.tup ((basis ws).map iv)), some (iv l)]]).take h.length)
      | false => .bad
    | false => .bad) = _
  rw [take_app, show wfH h.length h = true from hw]
  have : wfL h.length [.tup ((basis ws).map iv), iv l] = true := by
    unfold wfL
    rw [wf_tup]
    dsimp only
    unfold wfL
    rw [show wfV h.length (iv l) = true from by unfold iv; simp [wfV]]
    simp [wfL]
  rw [this]
  rfl
theorem told_bas {l : Nat} {bs : List Nat} (B : BasN l bs) (h1 : 1 ≤ l) (h2 : l ≤ 24) : Told l bs := ⟨h1, h2, B.lt, by have := bas_le B; omega⟩
theorem bas_self {bs : List Nat} (B : Bas bs) : basis bs = bs := (basis_eq B (Same.refl bs)).symm
theorem q_made {l : Nat} {bs : List Nat} (B : BasN l bs) (h1 : 1 ≤ l) (h2 : l ≤ 24) (hw : Wf h) : run GG FF (n + 6) 21 [iv l, .tup (bs.map iv)] h = .ok (code l bs) h := by
  refine run_ret (d := f21) rfl rfl ?_
  show bnd (evE GG (run GG FF (n + 5)) (.mk 0 (.acons (.var 0) (.acons (.var 1) .anil))) [some (iv l), some (.tup (bs.map iv))] h) _ = _
  rw [q_mk (n := n) (told_bas B h1 h2) hw (as := (.acons (.var 0) (.acons (.var 1) .anil))) rfl, bas_self B.bas]
  rfl
theorem q_reqc {l : Nat} {bs : List Nat} : run GG FF (n + 1) 22 [code l bs] h = .ok .non h := by
  refine run_nx (d := f22) (env := [some (code l bs)]) rfl rfl ?_
  rfl
theorem dual_basN' {l : Nat} {bs : List Nat} (B : BasN l bs) : BasN l (dualB l bs) := dual_basN B
theorem q_dual {l : Nat} {bs : List Nat} (B : BasN l bs) (h1 : 1 ≤ l) (h2 : l ≤ 24) (hw : Wf h) : run GG FF (n + 7) 25 [code l bs] h = .ok (code l (dualB l bs)) h := by
  refine run_ret (d := f25) rfl rfl ?_
  show evS GG (run GG FF (n + 6)) (.seq (.ex (.call 22 (.acons (.var 0) .anil))) (.ret (.call 21 (.acons (.attr (.var 0) 1) (.acons (.call 13 (.acons (.attr (.var 0) 1) (.acons (.attr (.var 0) 0) .anil))) .anil))))) [some (code l bs)] h = _
  simp only [evS, evE, evA, evF, evW, part1, part0, evC, List.getElem?_cons_zero, List.getElem?_cons_succ, putE, List.set_cons_zero, List.set_cons_succ, tgV, putEs, wipeE, walkC, walkF, bnd_ok', lift_some, bndS_nx, bndS_rt, iv_xor, iv_and, iv_add, iv_axor, iv_aadd, iv_eq, iv_ne, iv_lt, iv_gt, iv_le, tru_bl, int0, int1, int2, q_reqc, at_len, at_bas, q_checks (n := n + 1) B h2 hw, q_made (n := n) (dual_basN B) h1 h2 hw]
theorem p_len {l : Nat} {bs : List Nat} : run GG FF (n + 1) 45 [code l bs] h = .ok (iv l) h := by
  refine run_ret (d := f45) rfl rfl ?_
  rfl
theorem p_bas {l : Nat} {bs : List Nat} : run GG FF (n + 1) 46 [code l bs] h = .ok (.tup (bs.map iv)) h := by
  refine run_ret (d := f46) rfl rfl ?_
  rfl
theorem p_dim {l : Nat} {bs : List Nat} : run GG FF (n + 1) 47 [code l bs] h = .ok (iv bs.length) h := by
  refine run_ret (d := f47) rfl rfl ?_
  show evS GG (run GG FF n) (.ret (.bif .len (.acons (.attr (.var 0) 0) .anil))) [some (code l bs)] h = _
  simp only [evS, evE, evA, evF, evW, part1, part0, evC, List.getElem?_cons_zero, List.getElem?_cons_succ, putE, List.set_cons_zero, List.set_cons_succ, tgV, putEs, wipeE, walkC, walkF, bnd_ok', lift_some, bndS_nx, bndS_rt, iv_xor, iv_and, iv_add, iv_axor, iv_aadd, iv_eq, iv_ne, iv_lt, iv_gt, iv_le, tru_bl, int0, int1, int2, at_bas, its_tup.len]
theorem a_len {l : Nat} {bs : List Nat} : attrR GG (run GG FF (n + 1)) 2 (code l bs) h = .ok (iv l) h := by
  show noX (run GG FF (n + 1) 45 [code l bs] h) = _
  rw [p_len]
  rfl
theorem a_bas {l : Nat} {bs : List Nat} : attrR GG (run GG FF (n + 1)) 3 (code l bs) h = .ok (.tup (bs.map iv)) h := by
  show noX (run GG FF (n + 1) 46 [code l bs] h) = _
  rw [p_bas]
  rfl
theorem a_dim {l : Nat} {bs : List Nat} : attrR GG (run GG FF (n + 1)) 4 (code l bs) h = .ok (iv bs.length) h := by
  show noX (run GG FF (n + 1) 47 [code l bs] h) = _
  rw [p_dim]
  rfl
end
end Law
set_option Elab.async false
set_option linter.all false
set_option maxRecDepth 100000
set_option maxHeartbeats 1000000
namespace Law
open Mi Gf
section
variable {n : Nat} {h : Hh} {cf : CF} {G : GT}
theorem zip_idx (ps : List Nat) : List.zipWith (fun i v => Vl.tup [i, v]) (rangeL (ps.map iv).length 0 1) (ps.map iv) = (List.range ps.length).map fun i => .tup [iv i, iv (ps.getD i 0)] := by
  rw [List.length_map, range_iv0]
  apply List.ext_getElem
  · simp
  · intro i h1 h2
    simp at h1 h2
    simp [List.getD_eq_getElem?_getD, List.getElem?_eq_getElem h2]
theorem comp_enum {tg : Tg} {own : List Nat} {c el e : Ex} {env : Env} {ps : List Nat} (p : Nat → Bool) (k : Nat → Vl) (he : evE G cf e env h = .ok (.tup (ps.map iv)) h) (hz : ps.length ≤ 1000)
    (q : ∀ i, i < ps.length → turnC G cf tg own c el env (.tup [iv i, iv (ps.getD i 0)]) h = .ok (if p i then some (k i) else none) h) : evF G cf (.comp own tg (.enum e) c el) env h = .ok (((List.range ps.length).filter p).map k) h := by
  have big := line_big
  rw [ev_comp]
  have ew : evW G cf (.enum e) env h = bnd (evE G cf e env h) fun x h => match frq x with
    | some (_, xs) => .ok (.its (List.zipWith (fun i v => .tup [i, v]) (rangeL xs.length 0 1) xs)) h
    | none => .bad := rfl
  rw [ew, he, bnd_ok']
  show bnd (R.ok (Wk.its (List.zipWith (fun i v => Vl.tup [i, v]) (rangeL (ps.map iv).length 0 1) (ps.map iv))) h) _ = _
  rw [zip_idx, bnd_ok']
  show compL (turnC G cf tg own c el env) ((List.range ps.length).map fun i => .tup [iv i, iv (ps.getD i 0)]) [] h = _
  rw [compL_filter (p := p) (k := k) (by simp; omega) fun i hi => q i (List.mem_range.mp hi), List.nil_append]
theorem q_cut (w : Nat) {ps : List Nat} (hz : ps.length ≤ 24) : run GG FF (n + 2) 17 [iv w, .tup (ps.map iv)] h = .ok (iv (cutF 0 w ps)) h := by
  refine run_ret (d := f17) rfl rfl ?_
  have c : evF GG (run GG FF (n + 1)) (.comp [2, 3] (.t [2, 3]) (.enum (.var 1)) (.sm (.call 6 (.acons (.var 0) (.acons (.var 3) .anil)))) (.var 2)) [some (iv w), some (.tup (ps.map iv)), none, none] h = .ok (((List.range ps.length).filter fun i => w.testBit (ps.getD i 0)).map iv) h := by
    refine comp_enum (fun i => w.testBit (ps.getD i 0)) iv rfl (by omega) fun i hi => ?_
    unfold turnC
    simp only [evS, evE, evA, evF, evW, part1, part0, evC, List.getElem?_cons_zero, List.getElem?_cons_succ, putE, List.set_cons_zero, List.set_cons_succ, tgV, putEs, wipeE, walkC, walkF, bnd_ok', lift_some, bndS_nx, bndS_rt, iv_xor, iv_and, iv_add, iv_axor, iv_aadd, iv_eq, iv_ne, iv_lt, iv_gt, iv_le, tru_bl, int0, int1, int2, r8]
    cases w.testBit (ps.getD i 0) with
    | true => simp only [evS, evE, evA, evF, evW, part1, part0, evC, List.getElem?_cons_zero, List.getElem?_cons_succ, putE, List.set_cons_zero, List.set_cons_succ, tgV, putEs, wipeE, walkC, walkF, bnd_ok', lift_some, bndS_nx, bndS_rt, iv_xor, iv_and, iv_add, iv_axor, iv_aadd, iv_eq, iv_ne, iv_lt, iv_gt, iv_le, tru_bl, int0, int1, int2, if_true]
    | false => simp only [evS, evE, evA, evF, evW, part1, part0, evC, List.getElem?_cons_zero, List.getElem?_cons_succ, putE, List.set_cons_zero, List.set_cons_succ, tgV, putEs, wipeE, walkC, walkF, bnd_ok', lift_some, bndS_nx, bndS_rt, iv_xor, iv_and, iv_add, iv_axor, iv_aadd, iv_eq, iv_ne, iv_lt, iv_gt, iv_le, tru_bl, int0, int1, int2, Bool.false_eq_true, if_false]
  show bnd (bnd (bnd (bnd (evF GG (run GG FF (n + 1)) (.comp [2, 3] (.t [2, 3]) (.enum (.var 1)) (.sm (.call 6 (.acons (.var 0) (.acons (.var 3) .anil)))) (.var 2)) [some (iv w), some (.tup (ps.map iv)), none, none] h) _) _) _) _ = _
  rw [c, bnd_ok']
  have q := q_word' (n := n) (h := h) (v := .lst (((List.range ps.length).filter fun i => w.testBit (ps.getD i 0)).map iv)) its_lst (fun p hp => by
    have := List.mem_range.mp (List.mem_filter.mp hp).1
    omega) (by
    have := List.length_filter_le (fun i => w.testBit (ps.getD i 0)) (List.range ps.length)
    rw [List.length_range] at this
    omega) (List.Pairwise.filter _ List.nodup_range)
  rw [cut_xorP] at q
  simp only [evS, evE, evA, evF, evW, part1, part0, evC, List.getElem?_cons_zero, List.getElem?_cons_succ, putE, List.set_cons_zero, List.set_cons_succ, tgV, putEs, wipeE, walkC, walkF, bnd_ok', lift_some, bndS_nx, bndS_rt, iv_xor, iv_and, iv_add, iv_axor, iv_aadd, iv_eq, iv_ne, iv_lt, iv_gt, iv_le, tru_bl, int0, int1, int2, q]
theorem cuts_lt (bs ps : List Nat) (hz : ps.length ≤ 24) : ∀ w ∈ bs.map fun w => cutF 0 w ps, w < 2 ^ 24 := fun w hw => by
  obtain ⟨x, _, rfl⟩ := List.mem_map.mp hw
  exact Nat.lt_of_lt_of_le (cut_lt ps x) (Nat.pow_le_pow_right (by decide) hz)
theorem q_trace {bs ps : List Nat} (hb : bs.length ≤ 1000) (hz : ps.length ≤ 24) : run GG FF (n + 5) 18 [.tup (bs.map iv), .tup (ps.map iv)] h = .ok (.tup ((traceB bs ps).map iv)) h := by
  refine run_ret (d := f18) rfl rfl ?_
  have c : evF GG (run GG FF (n + 4)) (.comp [2] (.n 2) (.over (.var 0)) .noe (.call 17 (.acons (.var 2) (.acons (.var 1) .anil)))) [some (.tup (bs.map iv)), some (.tup (ps.map iv)), none] h = .ok ((bs.map fun w => cutF 0 w ps).map iv) h := by
    have := comp_its_all (G := GG) (cf := run GG FF (n + 4)) (tg := .n 2) (own := [2]) (el := (.call 17 (.acons (.var 2) (.acons (.var 1) .anil)))) (e := .var 0) (env := [some (.tup (bs.map iv)), some (.tup (ps.map iv)), none]) (h := h) (fun w => iv (cutF 0 w ps)) rfl its_tup (show bs.length < 1000000 by omega) fun w _ => by
      unfold turnC
      simp only [evS, evE, evA, evF, evW, part1, part0, evC, List.getElem?_cons_zero, List.getElem?_cons_succ, putE, List.set_cons_zero, List.set_cons_succ, tgV, putEs, wipeE, walkC, walkF, bnd_ok', lift_some, bndS_nx, bndS_rt, iv_xor, iv_and, iv_add, iv_axor, iv_aadd, iv_eq, iv_ne, iv_lt, iv_gt, iv_le, tru_bl, int0, int1, int2, q_cut (n := n + 2) w hz]
    rw [List.map_map]
    exact this
  show bnd (bnd (bnd (bnd (evF GG (run GG FF (n + 4)) (.comp [2] (.n 2) (.over (.var 0)) .noe (.call 17 (.acons (.var 2) (.acons (.var 1) .anil)))) [some (.tup (bs.map iv)), some (.tup (ps.map iv)), none] h) _) _) _) _ = _
  rw [c, bnd_ok']
  have q := q_basis (n := n) (h := h) (v := .lst ((bs.map fun w => cutF 0 w ps).map iv)) its_lst (cuts_lt bs ps hz) (by rw [List.length_map]; omega)
  simp only [evS, evE, evA, evF, evW, part1, part0, evC, List.getElem?_cons_zero, List.getElem?_cons_succ, putE, List.set_cons_zero, List.set_cons_succ, tgV, putEs, wipeE, walkC, walkF, bnd_ok', lift_some, bndS_nx, bndS_rt, iv_xor, iv_and, iv_add, iv_axor, iv_aadd, iv_eq, iv_ne, iv_lt, iv_gt, iv_le, tru_bl, int0, int1, int2, q]
  rfl
theorem q_within {l : Nat} {bs ps : List Nat} (B : BasN l bs) (L : Lot l ps) (hl : l ≤ 24) (hw : Wf h) : run GG FF (n + 7) 19 [iv l, .tup (bs.map iv), .tup (ps.map iv)] h = .ok (.tup ((withinB l bs ps).map iv)) h := by
  refine run_ret (d := f19) rfl rfl ?_
  have hlen := L.len
  have c : evF GG (run GG FF (n + 6)) (.comp [3] (.n 3) (.over (.var 2)) .noe (.bin .shl (.int 1) (.var 3))) [some (iv l), some (.tup (bs.map iv)), some (.tup (ps.map iv)), none] h = .ok ((units ps).map iv) h := by
    have := comp_its_all (G := GG) (cf := run GG FF (n + 6)) (tg := .n 3) (own := [3]) (el := (.bin .shl (.int 1) (.var 3))) (e := .var 2) (env := [some (iv l), some (.tup (bs.map iv)), some (.tup (ps.map iv)), none]) (h := h) (fun p => iv (2 ^ p)) rfl its_tup (show ps.length < 1000000 by omega) fun p hp => by
      have := L.lt p hp
      unfold turnC
      simp only [evS, evE, evA, evF, evW, part1, part0, evC, List.getElem?_cons_zero, List.getElem?_cons_succ, putE, List.set_cons_zero, List.set_cons_succ, tgV, putEs, wipeE, walkC, walkF, bnd_ok', lift_some, bndS_nx, bndS_rt, iv_xor, iv_and, iv_add, iv_axor, iv_aadd, iv_eq, iv_ne, iv_lt, iv_gt, iv_le, tru_bl, int0, int1, int2, o_shl (show p ≤ 1000 by omega)]
    unfold units
    rw [List.map_map]
    exact this
  have q := q_basis (n := n + 2) (h := h) (v := .lst ((units ps).map iv)) its_lst (fun w hw => by
    obtain ⟨p, hp, rfl⟩ := List.mem_map.mp hw
    exact Nat.pow_lt_pow_right (by decide) (Nat.lt_of_lt_of_le (L.lt p hp) hl)) (by unfold units; rw [List.length_map]; omega)
  have m := q_meet (n := n) (h := h) B (units_basN L) hl hw
  show evS GG (run GG FF (n + 6)) (.ret (.call 14 (.acons (.var 0) (.acons (.var 1) (.acons (.call 10 (.acons (.fz (.comp [3] (.n 3) (.over (.var 2)) .noe (.bin .shl (.int 1) (.var 3)))) .anil)) .anil))))) [some (iv l), some (.tup (bs.map iv)), some (.tup (ps.map iv)), none] h = _
  simp only [c, evS, evE, evA, f_disp, f_cat, f_listof, f_srt, evW, part1, part0, evC, List.getElem?_cons_zero, List.getElem?_cons_succ, putE, List.set_cons_zero, List.set_cons_succ, tgV, putEs, wipeE, walkC, walkF, bnd_ok', lift_some, bndS_nx, bndS_rt, iv_xor, iv_and, iv_add, iv_axor, iv_aadd, iv_eq, iv_ne, iv_lt, iv_gt, iv_le, tru_bl, int0, int1, int2, q, m]
  rfl
theorem q_part {l : Nat} {bs ps : List Nat} (B : BasN l bs) (L : Lot l ps) (hl : l ≤ 24) (hw : Wf h) : run GG FF (n + 8) 20 [iv l, .tup (bs.map iv), .tup (ps.map iv)] h = .ok (.tup ((partB l bs ps).map iv)) h := by
  refine run_ret (d := f20) rfl rfl ?_
  have hlen := L.len
  have hwl := bas_le (within_basN B L)
  have wi := q_within (n := n) (h := h) B L hl hw
  have c : evF GG (run GG FF (n + 7)) (.comp [3] (.n 3) (.over (.call 19 (.acons (.var 0) (.acons (.var 1) (.acons (.var 2) .anil))))) .noe (.call 17 (.acons (.var 3) (.acons (.var 2) .anil)))) [some (iv l), some (.tup (bs.map iv)), some (.tup (ps.map iv)), none] h = .ok (((withinB l bs ps).map fun w => cutF 0 w ps).map iv) h := by
    have := comp_its_all (G := GG) (cf := run GG FF (n + 7)) (tg := .n 3) (own := [3]) (el := (.call 17 (.acons (.var 3) (.acons (.var 2) .anil)))) (e := (.call 19 (.acons (.var 0) (.acons (.var 1) (.acons (.var 2) .anil))))) (env := [some (iv l), some (.tup (bs.map iv)), some (.tup (ps.map iv)), none]) (h := h) (v := .tup ((withinB l bs ps).map iv)) (ws := withinB l bs ps) (fun w => iv (cutF 0 w ps)) (by simp only [evS, evE, evA, evF, evW, part1, part0, evC, List.getElem?_cons_zero, List.getElem?_cons_succ, putE, List.set_cons_zero, List.set_cons_succ, tgV, putEs, wipeE, walkC, walkF, bnd_ok', lift_some, bndS_nx, bndS_rt, iv_xor, iv_and, iv_add, iv_axor, iv_aadd, iv_eq, iv_ne, iv_lt, iv_gt, iv_le, tru_bl, int0, int1, int2, wi]) its_tup (show (withinB l bs ps).length < 1000000 by omega) fun w _ => by
      unfold turnC
      simp only [evS, evE, evA, evF, evW, part1, part0, evC, List.getElem?_cons_zero, List.getElem?_cons_succ, putE, List.set_cons_zero, List.set_cons_succ, tgV, putEs, wipeE, walkC, walkF, bnd_ok', lift_some, bndS_nx, bndS_rt, iv_xor, iv_and, iv_add, iv_axor, iv_aadd, iv_eq, iv_ne, iv_lt, iv_gt, iv_le, tru_bl, int0, int1, int2, q_cut (n := n + 5) w (show ps.length ≤ 24 by omega)]
    rw [List.map_map]
    exact this
  have q := q_basis (n := n + 3) (h := h) (v := .lst (((withinB l bs ps).map fun w => cutF 0 w ps).map iv)) its_lst (cuts_lt _ ps (by omega)) (by rw [List.length_map]; omega)
  show evS GG (run GG FF (n + 7)) (.ret (.call 10 (.acons (.fz (.comp [3] (.n 3) (.over (.call 19 (.acons (.var 0) (.acons (.var 1) (.acons (.var 2) .anil))))) .noe (.call 17 (.acons (.var 3) (.acons (.var 2) .anil))))) .anil))) [some (iv l), some (.tup (bs.map iv)), some (.tup (ps.map iv)), none] h = _
  simp only [c, evS, evE, evA, f_disp, f_cat, f_listof, f_srt, evW, part1, part0, evC, List.getElem?_cons_zero, List.getElem?_cons_succ, putE, List.set_cons_zero, List.set_cons_succ, tgV, putEs, wipeE, walkC, walkF, bnd_ok', lift_some, bndS_nx, bndS_rt, iv_xor, iv_and, iv_add, iv_axor, iv_aadd, iv_eq, iv_ne, iv_lt, iv_gt, iv_le, tru_bl, int0, int1, int2, q]
  rfl
theorem q_islot {l : Nat} {ps : List Nat} (L : Lot l ps) (hl : l ≤ 24) (hp : ps ≠ []) : run GG FF (n + 4) 23 [iv l, .tup (ps.map iv)] h = .ok (.bl true) h := by
  refine run_ret (d := f23) rfl rfl ?_
  have hlen := L.len
  have h1 : 1 ≤ l := by
    cases ps with
    | nil => exact absurd rfl hp
    | cons p r => have := L.lt p List.mem_cons_self; omega
  have c1 : cmpV .ne h (.tup (ps.map iv)) (.tup []) = some true := by
    cases ps with
    | nil => exact absurd rfl hp
    | cons p r =>
      show (match (match pl (.tup ((p :: r).map iv)) 20 with
        | true => match pl (.tup []) 20 with
          | true => some (eqV (.tup ((p :: r).map iv)) (.tup []))
          | false => none
        | false => none) with
        | some b => some (!b)
        | none => none) = _
      have e1 : pl (.tup ((p :: r).map iv)) 20 = true := by
        have : ∀ (k : Nat) (ws : List Nat), plL (ws.map iv) k = true := by
          intro k ws
          induction ws with
          | nil => simp [plL]
          | cons w ws ih =>
            rw [List.map_cons]
            unfold plL
            rw [show pl (iv w) k = true from by unfold iv; cases k <;> simp [pl]]
            exact ih
        exact this 19 (p :: r)
      rw [e1]
      simp [pl, plL, eqV, eqL]
  have h0 : decide (([] : List Vl).length ≤ line) = true := decide_eq_true (Nat.zero_le _)
  show evS GG (run GG FF (n + 3)) (.ret (.and (.cmp .ne (.var 1) (.tup .anil)) (.call 4 (.acons (.var 1) (.acons (.bin .sub (.var 0) (.int 1)) .anil))))) [some (iv l), some (.tup (ps.map iv))] h = _
  simp only [evS, evE, evA, evF, evW, part1, part0, evC, List.getElem?_cons_zero, List.getElem?_cons_succ, putE, List.set_cons_zero, List.set_cons_succ, tgV, putEs, wipeE, walkC, walkF, bnd_ok', lift_some, bndS_nx, bndS_rt, iv_xor, iv_and, iv_add, iv_axor, iv_aadd, iv_eq, iv_ne, iv_lt, iv_gt, iv_le, tru_bl, int0, int1, int2, h0, c1, o_sub h1, r4 (n := n) ps (l - 1) (fun p hp => by have := L.lt p hp; omega) L.asc (by omega)]
theorem q_reqlot {l : Nat} {bs ps : List Nat} (L : Lot l ps) (hl : l ≤ 24) (hp : ps ≠ []) : run GG FF (n + 5) 24 [code l bs, .tup (ps.map iv)] h = .ok .non h := by
  refine run_nx (d := f24) (env := [some (code l bs), some (.tup (ps.map iv))]) rfl rfl ?_
  show evS GG (run GG FF (n + 4)) (.seq (.ex (.call 22 (.acons (.var 0) .anil))) (.ifs (.not (.call 23 (.acons (.attr (.var 0) 1) (.acons (.var 1) .anil)))) .never .skip)) [some (code l bs), some (.tup (ps.map iv))] h = _
  simp only [evS, evE, evA, evF, evW, part1, part0, evC, List.getElem?_cons_zero, List.getElem?_cons_succ, putE, List.set_cons_zero, List.set_cons_succ, tgV, putEs, wipeE, walkC, walkF, bnd_ok', lift_some, bndS_nx, bndS_rt, iv_xor, iv_and, iv_add, iv_axor, iv_aadd, iv_eq, iv_ne, iv_lt, iv_gt, iv_le, tru_bl, int0, int1, int2, q_reqc, at_len, q_islot (n := n) L hl hp, Bool.not_true]
theorem lot_pos {l : Nat} {ps : List Nat} (L : Lot l ps) (hl : l ≤ 24) (hp : ps ≠ []) : 1 ≤ ps.length ∧ ps.length ≤ 24 := ⟨List.length_pos_iff.mpr hp, Nat.le_trans L.len hl⟩
theorem q_parton {l : Nat} {bs ps : List Nat} (B : BasN l bs) (L : Lot l ps) (hl : l ≤ 24) (hp : ps ≠ []) (hw : Wf h) : run GG FF (n + 9) 26 [code l bs, .tup (ps.map iv)] h = .ok (code ps.length (partB l bs ps)) h := by
  refine run_ret (d := f26) rfl rfl ?_
  obtain ⟨z1, z2⟩ := lot_pos L hl hp
  show evS GG (run GG FF (n + 8)) (.seq (.ex (.call 24 (.acons (.var 0) (.acons (.var 1) .anil)))) (.ret (.call 21 (.acons (.bif .len (.acons (.var 1) .anil)) (.acons (.call 20 (.acons (.attr (.var 0) 1) (.acons (.attr (.var 0) 0) (.acons (.var 1) .anil)))) .anil))))) [some (code l bs), some (.tup (ps.map iv))] h = _
  simp only [evS, evE, evA, evF, evW, part1, part0, evC, List.getElem?_cons_zero, List.getElem?_cons_succ, putE, List.set_cons_zero, List.set_cons_succ, tgV, putEs, wipeE, walkC, walkF, bnd_ok', lift_some, bndS_nx, bndS_rt, iv_xor, iv_and, iv_add, iv_axor, iv_aadd, iv_eq, iv_ne, iv_lt, iv_gt, iv_le, tru_bl, int0, int1, int2, q_reqlot (n := n + 3) L hl hp, its_tup.len, at_len, at_bas, q_part (n := n) B L hl hw, q_made (n := n + 2) (part_basN (l := l) (bs := bs) (ps := ps)) z1 z2 hw]
theorem q_traceon {l : Nat} {bs ps : List Nat} (B : BasN l bs) (L : Lot l ps) (hl : l ≤ 24) (hp : ps ≠ []) (hw : Wf h) : run GG FF (n + 7) 27 [code l bs, .tup (ps.map iv)] h = .ok (code ps.length (traceB bs ps)) h := by
  refine run_ret (d := f27) rfl rfl ?_
  obtain ⟨z1, z2⟩ := lot_pos L hl hp
  have := bas_le B
  show evS GG (run GG FF (n + 6)) (.seq (.ex (.call 24 (.acons (.var 0) (.acons (.var 1) .anil)))) (.ret (.call 21 (.acons (.bif .len (.acons (.var 1) .anil)) (.acons (.call 18 (.acons (.attr (.var 0) 0) (.acons (.var 1) .anil))) .anil))))) [some (code l bs), some (.tup (ps.map iv))] h = _
  simp only [evS, evE, evA, evF, evW, part1, part0, evC, List.getElem?_cons_zero, List.getElem?_cons_succ, putE, List.set_cons_zero, List.set_cons_succ, tgV, putEs, wipeE, walkC, walkF, bnd_ok', lift_some, bndS_nx, bndS_rt, iv_xor, iv_and, iv_add, iv_axor, iv_aadd, iv_eq, iv_ne, iv_lt, iv_gt, iv_le, tru_bl, int0, int1, int2, q_reqlot (n := n + 1) L hl hp, its_tup.len, at_len, at_bas, q_trace (n := n + 1) (bs := bs) (ps := ps) (by omega) z2, q_made (n := n) (trace_basN (bs := bs) ps) z1 z2 hw]
end
end Law
set_option Elab.async false
set_option linter.all false
set_option maxRecDepth 100000
set_option maxHeartbeats 1000000
namespace Law
open Mi Gf
theorem while_t {test : Env → Hh → R Bool} {body : Env → Hh → R Oc} {k : Nat} {env env' : Env} {h h1 h2 : Hh} (t : test env h = .ok true h1) (b : body env h1 = .ok (.nx env') h2) : whileL test body (k + 1) env h = whileL test body k env' h2 := by
  show (match test env h with
    | .ok true h1 => match body env h1 with
      | .ok (.nx env2) h2 => whileL test body k env2 h2
      | .ok (.ct env2) h2 => whileL test body k env2 h2
      | .ok (.bk env2) h2 => .ok (.nx env2) h2
      | .ok (.rt v) h2 => .ok (.rt v) h2
      | .exc c p h2 => .exc c p h2
      | .bad => .bad
    | .ok false h1 => .ok (.nx env) h1
    | .exc c p h1 => .exc c p h1
    | .bad => .bad) = _
  rw [t]
  dsimp only
  rw [b]
theorem while_f {test : Env → Hh → R Bool} {body : Env → Hh → R Oc} {k : Nat} {env : Env} {h h1 : Hh} (t : test env h = .ok false h1) : whileL test body (k + 1) env h = .ok (.nx env) h1 := by
  show (match test env h with
    | .ok true h1 => match body env h1 with
      | .ok (.nx env2) h2 => whileL test body k env2 h2
      | .ok (.ct env2) h2 => whileL test body k env2 h2
      | .ok (.bk env2) h2 => .ok (.nx env2) h2
      | .ok (.rt v) h2 => .ok (.rt v) h2
      | .exc c p h2 => .exc c p h2
      | .bad => .bad
    | .ok false h1 => .ok (.nx env) h1
    | .exc c p h1 => .exc c p h1
    | .bad => .bad) = _
  rw [t]
section
variable {n : Nat} {h : Hh}
theorem iv_mod {a b : Nat} (hb : 0 < b) : binV .mod h (iv a) (iv b) = some (iv (a % b)) := by
  show (match binI .mod (a : Int) (b : Int) with | some k => some (Vl.int k) | none => none) = _
  rw [modN hb]
  rfl
theorem iv_fdiv {a b : Nat} (hb : 0 < b) (hl : b.log2 < 9000) : binV .fdiv h (iv a) (iv b) = some (iv (a / b)) := by
  have e : binI .fdiv (a : Int) (b : Int) = some ((a / b : Nat) : Int) := by
    show (if (0 : Int) < (b : Int) then (if (b : Int).natAbs.log2 < 9000 then some ((a : Int) / b) else none) else none) = _
    rw [if_pos (by omega), Int.natAbs_natCast, if_pos hl]
    rfl
  show (match binI .fdiv (a : Int) (b : Int) with | some k => some (Vl.int k) | none => none) = _
  rw [e]
  rfl
theorem iv_shl {p : Nat} (hp : p ≤ 1000) : binV .shl h (iv 1) (iv p) = some (iv (2 ^ p)) := by
  show (match binI .shl 1 (p : Int) with | some k => some (Vl.int k) | none => none) = _
  rw [shl1 hp]
  rfl
theorem bif_int (w : Nat) : bifV .int h [iv w] = some (iv w) := rfl
def popc : Nat → Nat → Nat
  | 0, _ => 0
  | k + 1, w => w % 2 + popc k (w / 2)
theorem popc_zero : ∀ k, popc k 0 = 0
  | 0 => rfl
  | k + 1 => by
    show 0 % 2 + popc k (0 / 2) = 0
    rw [Nat.zero_div, popc_zero k]
theorem wh34 {cf : CF} : ∀ (k fuel w f : Nat), w < 2 ^ k → k < fuel →
    whileL (fun env h => bnd (evE GG cf (.cmp .gt (.var 0) (.int 0)) env h) fun x h => lift (truth h x) h) (fun env h => evS GG cf (.par [1, 0] (.acons (.bin .add (.var 1) (.bin .mod (.var 0) (.int 2))) (.acons (.bin .fdiv (.var 0) (.int 2)) .anil))) env h) fuel [some (iv w), some (iv f)] h = .ok (.nx [some (iv 0), some (iv (f + popc k w))]) h
  | k, 0, w, f, _, hf => by omega
  | 0, fuel + 1, w, f, hw, _ => by
    have : w = 0 := by simpa using hw
    subst this
    unfold whileL
    simp only [evS, evE, evA, evF, evW, part1, part0, evC, List.getElem?_cons_zero, List.getElem?_cons_succ, putE, List.set_cons_zero, List.set_cons_succ, tgV, putEs, wipeE, walkC, walkF, bnd_ok', lift_some, bndS_nx, bndS_rt, iv_xor, iv_and, iv_add, iv_axor, iv_aadd, iv_eq, iv_ne, iv_lt, iv_gt, iv_le, tru_bl, int0, int1, int2, decide_eq_false (Nat.lt_irrefl 0)]
    rfl
  | k + 1, fuel + 1, w, f, hw, hf => by
    by_cases hz : w = 0
    · subst hz
      unfold whileL
      simp only [evS, evE, evA, evF, evW, part1, part0, evC, List.getElem?_cons_zero, List.getElem?_cons_succ, putE, List.set_cons_zero, List.set_cons_succ, tgV, putEs, wipeE, walkC, walkF, bnd_ok', lift_some, bndS_nx, bndS_rt, iv_xor, iv_and, iv_add, iv_axor, iv_aadd, iv_eq, iv_ne, iv_lt, iv_gt, iv_le, tru_bl, int0, int1, int2, decide_eq_false (Nat.lt_irrefl 0), popc_zero, Nat.add_zero]
    · have hlt : w / 2 < 2 ^ k := by
        rw [Nat.pow_succ] at hw
        omega
      have ih := wh34 (cf := cf) k fuel (w / 2) (f + w % 2) hlt (by omega)
      rw [show f + popc (k + 1) w = f + w % 2 + popc k (w / 2) by show f + (w % 2 + popc k (w / 2)) = _; omega, ← ih]
      have t1 : (fun env h => bnd (evE GG cf (.cmp .gt (.var 0) (.int 0)) env h) fun x h => lift (truth h x) h) [some (iv w), some (iv f)] h = .ok true h := by
        simp only [evS, evE, evA, evF, evW, part1, part0, evC, List.getElem?_cons_zero, List.getElem?_cons_succ, putE, List.set_cons_zero, List.set_cons_succ, tgV, putEs, wipeE, walkC, walkF, bnd_ok', lift_some, bndS_nx, bndS_rt, iv_xor, iv_and, iv_add, iv_axor, iv_aadd, iv_eq, iv_ne, iv_lt, iv_gt, iv_le, tru_bl, int0, int1, int2, decide_eq_true (Nat.pos_of_ne_zero hz)]
      have t2 : (fun env h => evS GG cf (.par [1, 0] (.acons (.bin .add (.var 1) (.bin .mod (.var 0) (.int 2))) (.acons (.bin .fdiv (.var 0) (.int 2)) .anil))) env h) [some (iv w), some (iv f)] h = .ok (.nx [some (iv (w / 2)), some (iv (f + w % 2))]) h := by
        simp only [evS, evE, evA, evF, evW, part1, part0, evC, List.getElem?_cons_zero, List.getElem?_cons_succ, putE, List.set_cons_zero, List.set_cons_succ, tgV, putEs, wipeE, walkC, walkF, bnd_ok', lift_some, bndS_nx, bndS_rt, iv_xor, iv_and, iv_add, iv_axor, iv_aadd, iv_eq, iv_ne, iv_lt, iv_gt, iv_le, tru_bl, int0, int1, int2, iv_mod (show 0 < 2 by decide), iv_fdiv (show 0 < 2 by decide) (show Nat.log2 2 < 9000 by decide)]
      exact while_t t1 t2
theorem wh36 {cf : CF} : ∀ (k fuel w : Nat) (f : Int), w < 2 ^ k → k < fuel →
    whileL (fun env h => bnd (evE GG cf (.cmp .gt (.var 0) (.int 0)) env h) fun x h => lift (truth h x) h) (fun env h => evS GG cf (.par [1, 0] (.acons (.bin .add (.var 1) (.int 1)) (.acons (.bin .fdiv (.var 0) (.int 2)) .anil))) env h) fuel [some (iv w), some (.int f)] h = .ok (.nx [some (iv 0), some (.int (f + bits w))]) h
  | k, 0, w, f, _, hf => by omega
  | k, fuel + 1, w, f, hw, hf => by
    by_cases hz : w = 0
    · subst hz
      have t : (fun env h => bnd (evE GG cf (.cmp .gt (.var 0) (.int 0)) env h) fun x h => lift (truth h x) h) [some (iv 0), some (.int f)] h = .ok false h := by
        simp only [evS, evE, evA, evF, evW, part1, part0, evC, List.getElem?_cons_zero, List.getElem?_cons_succ, putE, List.set_cons_zero, List.set_cons_succ, tgV, putEs, wipeE, walkC, walkF, bnd_ok', lift_some, bndS_nx, bndS_rt, iv_xor, iv_and, iv_add, iv_axor, iv_aadd, iv_eq, iv_ne, iv_lt, iv_gt, iv_le, tru_bl, int0, int1, int2, decide_eq_false (Nat.lt_irrefl 0)]
      rw [while_f t]
      show _ = R.ok (Oc.nx [some (iv 0), some (.int (f + (0 : Nat)))]) h
      rw [Int.natCast_zero, Int.add_zero]
    · cases k with
      | zero => exact absurd (by simpa using hw) hz
      | succ k =>
        have hlt : w / 2 < 2 ^ k := by
          rw [Nat.pow_succ] at hw
          omega
        have ih := wh36 (cf := cf) k fuel (w / 2) (f + 1) hlt (by omega)
        have hb : (f + 1 + bits (w / 2) : Int) = f + bits w := by
          unfold bits
          rw [if_neg hz]
          by_cases h2 : w / 2 = 0
          · rw [if_pos h2]
            have : w = 1 := by omega
            subst this
            have l1 : Nat.log2 1 = 0 := by decide
            rw [l1]
            omega
          · rw [if_neg h2]
            have e : w.log2 = (w / 2).log2 + 1 := by
              rw [Nat.log2_def w, if_pos (by omega)]
            rw [e]
            omega
        rw [← hb, ← ih]
        have t1 : (fun env h => bnd (evE GG cf (.cmp .gt (.var 0) (.int 0)) env h) fun x h => lift (truth h x) h) [some (iv w), some (.int f)] h = .ok true h := by
          simp only [evS, evE, evA, evF, evW, part1, part0, evC, List.getElem?_cons_zero, List.getElem?_cons_succ, putE, List.set_cons_zero, List.set_cons_succ, tgV, putEs, wipeE, walkC, walkF, bnd_ok', lift_some, bndS_nx, bndS_rt, iv_xor, iv_and, iv_add, iv_axor, iv_aadd, iv_eq, iv_ne, iv_lt, iv_gt, iv_le, tru_bl, int0, int1, int2, decide_eq_true (Nat.pos_of_ne_zero hz)]
        have ad : binV .add h (.int f) (iv 1) = some (.int (f + 1)) := rfl
        have t2 : (fun env h => evS GG cf (.par [1, 0] (.acons (.bin .add (.var 1) (.int 1)) (.acons (.bin .fdiv (.var 0) (.int 2)) .anil))) env h) [some (iv w), some (.int f)] h = .ok (.nx [some (iv (w / 2)), some (.int (f + 1))]) h := by
          simp only [evS, evE, evA, evF, evW, part1, part0, evC, List.getElem?_cons_zero, List.getElem?_cons_succ, putE, List.set_cons_zero, List.set_cons_succ, tgV, putEs, wipeE, walkC, walkF, bnd_ok', lift_some, bndS_nx, bndS_rt, iv_xor, iv_and, iv_add, iv_axor, iv_aadd, iv_eq, iv_ne, iv_lt, iv_gt, iv_le, tru_bl, int0, int1, int2, ad, iv_fdiv (show 0 < 2 by decide) (show Nat.log2 2 < 9000 by decide)]
        exact while_t t1 t2
end
end Law
set_option Elab.async false
set_option linter.all false
set_option maxRecDepth 100000
set_option maxHeartbeats 1000000
namespace Law
open Mi Gf
section
variable {n : Nat} {h : Hh}
theorem iv_mul {a b : Nat} (hs : a < 18446744073709551616 ∨ b < 18446744073709551616) : binV .mul h (iv a) (iv b) = some (iv (a * b)) := by
  have e : binI .mul (a : Int) (b : Int) = some ((a * b : Nat) : Int) := by
    show (if (a : Int).natAbs.log2 + (b : Int).natAbs.log2 < 1000000 ∨ (-18446744073709551616 < (a : Int) ∧ (a : Int) < 18446744073709551616) ∨ (-18446744073709551616 < (b : Int) ∧ (b : Int) < 18446744073709551616) then some ((a : Int) * b) else none) = _
    rw [if_pos (by omega), Int.natCast_mul]
  show (match binI .mul (a : Int) (b : Int) with | some k => some (Vl.int k) | none => none) = _
  rw [e]
  rfl
theorem sub_at {p : Nat} {g s c : Vl} (hp : h[p]? = some (.lst [g, s, c])) : subV h (.ref p) (iv 0) = some g ∧ subV h (.ref p) (iv 1) = some s ∧ subV h (.ref p) (iv 2) = some c := by
  have e : ∀ k : Nat, subV h (.ref p) (iv k) = match Mi.ixN 3 (k : Int) with
    | some j => [g, s, c][j]?
    | none => none := fun k => by
    show (match h[p]? with
      | some (.lst xs) => match Mi.ixN xs.length (k : Int) with
        | some j => xs[j]?
        | none => none
      | some (.dct kvs) => dget (iv k) kvs
      | _ => none) = _
    rw [hp]
    rfl
  exact ⟨e 0, e 1, e 2⟩
theorem set_at {p : Nat} {g s c : Vl} (hp : h[p]? = some (.lst [g, s, c])) (v : Vl) : setV h (.ref p) (iv 0) v = some (h.set p (.lst [v, s, c])) ∧ setV h (.ref p) (iv 2) v = some (h.set p (.lst [g, s, v])) := by
  have e : ∀ k : Nat, setV h (.ref p) (iv k) v = match Mi.ixN 3 (k : Int) with
    | some j => some (h.set p (.lst ([g, s, c].set j v)))
    | none => none := fun k => by
    show (match h[p]? with
      | some (.lst xs) => match Mi.ixN xs.length (k : Int) with
        | some j => some (h.set p (.lst (xs.set j v)))
        | none => none
      | some (.dct kvs) => match keyOk (iv k) with
        | true => if kvs.length < line then some (h.set p (.dct (dput (iv k) v kvs))) else none
        | false => none
      | _ => none) = _
    rw [hp]
    rfl
  exact ⟨e 0, e 2⟩
def K0 : Nat := 67867979
def K1 : Nat := 2305843009213693951
def K2 : Nat := 49979687
def K3 : Nat := 2305843009213693907
def K4 : Nat := 86028121
def K5 : Nat := 23
def K6 : Nat := 65537
theorem lit1 : Vl.int 67867979 = iv K0 := congrArg Vl.int (show (67867979 : Int) = ((K0 : Nat) : Int) by decide)
theorem lit2 : Vl.int 2305843009213693951 = iv K1 := congrArg Vl.int (show (2305843009213693951 : Int) = ((K1 : Nat) : Int) by decide)
theorem lit3 : Vl.int 49979687 = iv K2 := congrArg Vl.int (show (49979687 : Int) = ((K2 : Nat) : Int) by decide)
theorem lit4 : Vl.int 2305843009213693907 = iv K3 := congrArg Vl.int (show (2305843009213693907 : Int) = ((K3 : Nat) : Int) by decide)
theorem lit5 : Vl.int 86028121 = iv K4 := congrArg Vl.int (show (86028121 : Int) = ((K4 : Nat) : Int) by decide)
theorem lit6 : Vl.int 23 = iv K5 := congrArg Vl.int (show (23 : Int) = ((K5 : Nat) : Int) by decide)
theorem lit7 : Vl.int 65537 = iv K6 := congrArg Vl.int (show (65537 : Int) = ((K6 : Nat) : Int) by decide)
theorem k0s : K0 < 18446744073709551616 := by decide
theorem k1p : 0 < K1 := by decide
theorem k1s : K1 < 18446744073709551616 := by decide
theorem k3p : 0 < K3 := by decide
theorem k4s : K4 < 18446744073709551616 := by decide
theorem k5s : K5 < 18446744073709551616 := by decide
theorem k6p : 0 < K6 := by decide
theorem k6l : K6.log2 < 9000 := by decide
end
end Law
set_option Elab.async false
set_option linter.all false
set_option maxRecDepth 100000
set_option maxHeartbeats 1000000
namespace Law
open Mi Gf
section
variable {n : Nat} {h : Hh}
end
end Law
set_option Elab.async false
set_option linter.all false
set_option maxRecDepth 100000
set_option maxHeartbeats 1000000
namespace Law
open Mi Gf
section
variable {n : Nat} {h : Hh}
def Pail (h : Hh) (p : Nat) : Prop := ∃ g s c : Nat, h[p]? = some (.lst [iv g, iv s, iv c])
def Drew (h h' : Hh) (p : Nat) : Prop := Pail h' p ∧ ∃ o, h' = h.set p o
theorem Drew.len {h h' : Hh} {p : Nat} (d : Drew h h' p) : h'.length = h.length := by
  obtain ⟨_, o, rfl⟩ := d
  exact List.length_set ..
theorem Drew.trans {h h1 h2 : Hh} {p : Nat} (a : Drew h h1 p) (b : Drew h1 h2 p) : Drew h h2 p := by
  obtain ⟨_, o, rfl⟩ := a
  obtain ⟨q, o', rfl⟩ := b
  exact ⟨q, o', by rw [List.set_set]⟩
theorem Drew.refl {h : Hh} {p : Nat} (hp : Pail h p) : Drew h h p := by
  obtain ⟨g, s, c, e⟩ := hp
  exact ⟨⟨g, s, c, e⟩, .lst [iv g, iv s, iv c], by
    have hl := (List.getElem?_eq_some_iff.mp e).1
    have he := (List.getElem?_eq_some_iff.mp e).2
    rw [← he, List.set_getElem_self]⟩
end
end Law
set_option Elab.async false
set_option linter.all false
set_option maxRecDepth 100000
set_option maxHeartbeats 1000000
namespace Law
open Mi Gf
theorem forL_ex {turn : Vl → Env → Hh → R Oc} (I : Env → Hh → Prop) : ∀ {xs : List Vl} {env : Env} {h : Hh}, I env h → (∀ x ∈ xs, ∀ env h, I env h → ∃ env' h', turn x env h = .ok (.nx env') h' ∧ I env' h') → ∃ env' h', forL turn xs env h = .ok (.nx env') h' ∧ I env' h'
  | [], env, h, i, _ => ⟨env, h, rfl, i⟩
  | x :: xs, env, h, i, k => by
    obtain ⟨env1, h1, e1, i1⟩ := k x List.mem_cons_self env h i
    obtain ⟨env2, h2, e2, i2⟩ := forL_ex I i1 fun y hy => k y (List.mem_cons_of_mem _ hy)
    refine ⟨env2, h2, ?_, i2⟩
    show (match turn x env h with
      | .ok (.nx env1) h1 => forL turn xs env1 h1
      | .ok (.ct env1) h1 => forL turn xs env1 h1
      | .ok (.bk env1) h1 => .ok (.nx env1) h1
      | .ok (.rt v) h1 => .ok (.rt v) h1
      | .exc c p h1 => .exc c p h1
      | .bad => .bad) = _
    rw [e1]
    exact e2
section
variable {n : Nat} {h : Hh}
theorem sub_words (ws : List Nat) (r : Nat) (hr : r < ws.length) : (match Mi.ixN (ws.map iv).length (r : Int) with
    | some j => (ws.map iv)[j]?
    | none => none) = some (iv ws[r]) := by
  have : Mi.ixN (ws.map iv).length (r : Int) = some r := by
    show (if r < (ws.map iv).length then some r else none) = _
    rw [if_pos (by rw [List.length_map]; exact hr)]
  rw [this]
  show (ws.map iv)[r]? = _
  rw [List.getElem?_map, List.getElem?_eq_getElem hr]
  rfl
theorem len_words (ws : List Nat) : some (Vl.int ((ws.map iv).length : Nat)) = some (iv ws.length) := by
  rw [List.length_map]
  rfl
end
end Law
set_option Elab.async false
set_option linter.all false
set_option maxRecDepth 100000
set_option maxHeartbeats 1000000
namespace Law
open Mi Gf
section
variable {n : Nat} {h : Hh}
theorem spanF_len : ∀ (bs acc : List Nat), (spanF bs acc).length = acc.length * 2 ^ bs.length
  | [], acc => by simp [spanF]
  | b :: bs, acc => by
    show (spanF bs (acc ++ acc.map (· ^^^ b))).length = _
    rw [spanF_len bs, List.length_append, List.length_map, List.length_cons, Nat.pow_succ, Nat.add_mul, ← Nat.mul_assoc]
    omega
def lsTurn (cf : CF) (x : Vl) (env : Env) (h : Hh) : R Oc := match tgV (.n 2) x env with
  | some env' => evS GG cf (.set 1 (.fz (.cat (.var 1) (.fz (.comp [3] (.n 3) (.over (.var 1)) .noe (.bin .xor (.var 3) (.var 2))))))) env' h
  | none => .bad
theorem ls_ok {cf : CF} {t : Vl} : ∀ (bs acc : List Nat) (o : Option Vl), acc.length * 2 ^ bs.length ≤ 100000 →
    ∃ o', forL (lsTurn cf) (bs.map iv) [some t, some (.lst (acc.map iv)), o, none] h = .ok (.nx [some t, some (.lst ((spanF bs acc).map iv)), o', none]) h
  | [], acc, o, _ => ⟨o, rfl⟩
  | b :: bs, acc, o, hz => by
    have hz2 : (acc ++ acc.map (· ^^^ b)).length * 2 ^ bs.length ≤ 100000 := by
      rw [List.length_append, List.length_map]
      rw [List.length_cons, Nat.pow_succ] at hz
      have : (acc.length + acc.length) * 2 ^ bs.length = acc.length * (2 ^ bs.length * 2) := by
        rw [Nat.add_mul, ← Nat.mul_assoc]
        omega
      omega
    have h2 : 2 ≤ 2 ^ (b :: bs).length := by
      rw [List.length_cons, Nat.pow_succ]
      have : 1 ≤ 2 ^ bs.length := Nat.one_le_two_pow
      omega
    have hle : acc.length * 2 ≤ 100000 := Nat.le_trans (Nat.mul_le_mul_left acc.length h2) hz
    have big := line_big
    obtain ⟨o', e⟩ := ls_ok (cf := cf) (t := t) bs (acc ++ acc.map (· ^^^ b)) (some (iv b)) hz2
    refine ⟨o', ?_⟩
    have ht : lsTurn cf (iv b) [some t, some (.lst (acc.map iv)), o, none] h = .ok (.nx [some t, some (.lst ((acc ++ acc.map (· ^^^ b)).map iv)), some (iv b), none]) h := by
      unfold lsTurn
      simp only [evS, evE, evA, evF, evW, part1, part0, evC, List.getElem?_cons_zero, List.getElem?_cons_succ, putE, List.set_cons_zero, List.set_cons_succ, tgV, putEs, wipeE, walkC, walkF, bnd_ok', lift_some, bndS_nx, bndS_rt, iv_xor, iv_and, iv_add, iv_axor, iv_aadd, iv_eq, iv_ne, iv_lt, iv_gt, iv_le, tru_bl, int0, int1, int2]
      rw [compL_map (k := fun a => iv (a ^^^ b)) (by simp; omega) ?hk]
      case hk =>
        intro a _
        simp only [evS, evE, evA, evF, evW, part1, part0, evC, List.getElem?_cons_zero, List.getElem?_cons_succ, putE, List.set_cons_zero, List.set_cons_succ, tgV, putEs, wipeE, walkC, walkF, bnd_ok', lift_some, bndS_nx, bndS_rt, iv_xor, iv_and, iv_add, iv_axor, iv_aadd, iv_eq, iv_ne, iv_lt, iv_gt, iv_le, tru_bl, int0, int1, int2]
      have hsz : (acc.map iv).length + (acc.map fun a => iv (a ^^^ b)).length ≤ line := by
        simp
        omega
      simp only [evS, evE, evA, evF, evW, part1, part0, evC, List.getElem?_cons_zero, List.getElem?_cons_succ, putE, List.set_cons_zero, List.set_cons_succ, tgV, putEs, wipeE, walkC, walkF, bnd_ok', lift_some, bndS_nx, bndS_rt, iv_xor, iv_and, iv_add, iv_axor, iv_aadd, iv_eq, iv_ne, iv_lt, iv_gt, iv_le, tru_bl, int0, int1, int2, List.nil_append, catV, lstOf, if_pos hsz]
      rw [List.map_append, List.map_map]
      rfl
    rw [List.map_cons]
    show (match lsTurn cf (iv b) [some t, some (.lst (acc.map iv)), o, none] h with
      | .ok (.nx env1) h1 => forL (lsTurn cf) (bs.map iv) env1 h1
      | .ok (.ct env1) h1 => forL (lsTurn cf) (bs.map iv) env1 h1
      | .ok (.bk env1) h1 => .ok (.nx env1) h1
      | .ok (.rt v) h1 => .ok (.rt v) h1
      | .exc c p h1 => .exc c p h1
      | .bad => .bad) = _
    rw [ht]
    exact e
theorem r40 (bs : List Nat) (hl : bs.length ≤ 12) : run GG FF (n + 1) 35 [.tup (bs.map iv)] h = .ok (.lst ((sortN (spanF bs [0])).map iv)) h := by
  refine run_ret (d := f35) rfl rfl ?_
  show evS GG (run GG FF n) f35.body [some (.tup (bs.map iv)), none, none, none] h = _
  have h0 : decide ([iv 0].length ≤ line) = true := decide_eq_true (by show 1 ≤ line; decide)
  have hz : ([0] : List Nat).length * 2 ^ bs.length ≤ 100000 := by
    rw [List.length_singleton, Nat.one_mul]
    have := Nat.pow_le_pow_right (show 0 < 2 by decide) hl
    have : 2 ^ 12 = 4096 := by decide
    omega
  obtain ⟨o', e⟩ := ls_ok (h := h) (cf := run GG FF n) (t := .tup (bs.map iv)) bs [0] none hz
  have f : f35.body = .seq (.set 1 (.fz (.disp (.acons (.int 0) .anil)))) (.seq (.fors (.n 2) (.over (.var 0)) (.set 1 (.fz (.cat (.var 1) (.fz (.comp [3] (.n 3) (.over (.var 1)) .noe (.bin .xor (.var 3) (.var 2)))))))) (.ret (.fz (.srt false (.var 1))))) := rfl
  have fo : ∀ env h, evS GG (run GG FF n) (.fors (.n 2) (.over (.var 0)) (.set 1 (.fz (.cat (.var 1) (.fz (.comp [3] (.n 3) (.over (.var 1)) .noe (.bin .xor (.var 3) (.var 2)))))))) env h = bnd (evW GG (run GG FF n) (.over (.var 0)) env h) fun w h => walkF (lsTurn (run GG FF n)) w env h := fun env h => rfl
  have se : ∀ a b env h, evS GG (run GG FF n) (.seq a b) env h = bndS (evS GG (run GG FF n) a env h) fun env h => evS GG (run GG FF n) b env h := fun _ _ _ _ => rfl
  have s1 : evS GG (run GG FF n) (.set 1 (.fz (.disp (.acons (.int 0) .anil)))) [some (.tup (bs.map iv)), none, none, none] h = .ok (.nx [some (.tup (bs.map iv)), some (.lst ([0].map iv)), none, none]) h := by
    simp only [evS, evE, evA, evF, evW, part1, part0, evC, List.getElem?_cons_zero, List.getElem?_cons_succ, putE, List.set_cons_zero, List.set_cons_succ, tgV, putEs, wipeE, walkC, walkF, bnd_ok', lift_some, bndS_nx, bndS_rt, iv_xor, iv_and, iv_add, iv_axor, iv_aadd, iv_eq, iv_ne, iv_lt, iv_gt, iv_le, tru_bl, int0, int1, int2, h0]
    rfl
  have s2 : evW GG (run GG FF n) (.over (.var 0)) [some (.tup (bs.map iv)), some (.lst ([0].map iv)), none, none] h = .ok (.its (bs.map iv)) h := by
    simp only [evS, evE, evA, evF, evW, part1, part0, evC, List.getElem?_cons_zero, List.getElem?_cons_succ, putE, List.set_cons_zero, List.set_cons_succ, tgV, putEs, wipeE, walkC, walkF, bnd_ok', lift_some, bndS_nx, bndS_rt, iv_xor, iv_and, iv_add, iv_axor, iv_aadd, iv_eq, iv_ne, iv_lt, iv_gt, iv_le, tru_bl, int0, int1, int2]
  rw [f, se, s1, bndS_nx, se, fo, s2, bnd_ok']
  show bndS (forL (lsTurn (run GG FF n)) (bs.map iv) _ _) _ = _
  rw [e, bndS_nx]
  simp only [evS, evE, evA, evF, evW, part1, part0, evC, List.getElem?_cons_zero, List.getElem?_cons_succ, putE, List.set_cons_zero, List.set_cons_succ, tgV, putEs, wipeE, walkC, walkF, bnd_ok', lift_some, bndS_nx, bndS_rt, iv_xor, iv_and, iv_add, iv_axor, iv_aadd, iv_eq, iv_ne, iv_lt, iv_gt, iv_le, tru_bl, int0, int1, int2, lstOf, ints_iv, srt_asc]
theorem log_lt {bs : List Nat} (R : Red bs) {a b : Nat} (ha : a ∈ bs) (hb : b ∈ bs) (hab : a > b) : b.log2 < a.log2 := by
  have h0 : a ≠ 0 := R.pos a ha
  have h1 : b.log2 ≤ a.log2 := (Nat.le_log2 h0).mpr (Nat.le_trans (Nat.log2_self_le (R.pos b hb)) (Nat.le_of_lt hab))
  have h2 : b.log2 ≠ a.log2 := fun z => by
    have q := tb_head h0
    rw [← z] at q
    have := R.one b hb a ha q
    omega
  omega
theorem sorted_eq : ∀ {bs cs : List Nat}, bs.Pairwise (· ≤ ·) → cs.Pairwise (· ≤ ·) → bs.Perm cs → bs = cs
  | [], cs, _, _, h => by rw [List.nil_perm.mp h]
  | b :: bs, [], _, _, h => by cases List.perm_nil.mp h
  | b :: bs, c :: cs, p, q, h => by
    have hb : c ≤ b := by
      rcases List.mem_cons.mp (h.mem_iff.mp (List.mem_cons_self (a := b) (l := bs))) with z | z
      · omega
      · exact (List.pairwise_cons.mp q).1 b z
    have hc : b ≤ c := by
      rcases List.mem_cons.mp (h.mem_iff.mpr (List.mem_cons_self (a := c) (l := cs))) with z | z
      · omega
      · exact (List.pairwise_cons.mp p).1 c z
    have e : b = c := by omega
    subst e
    rw [sorted_eq (List.pairwise_cons.mp p).2 (List.pairwise_cons.mp q).2 (List.perm_cons b |>.mp h)]
theorem span_same {bs : List Nat} (B : Bas bs) : spanF bs.reverse [0] = sortN (spanF bs [0]) := by
  have asc : (spanL bs.reverse [0]).Pairwise (· < ·) := by
    refine spanL_asc bs.reverse (ds := []) (by rw [List.append_nil]; exact B.red.perm (List.reverse_perm _)) ?_ (fun a ha => by rw [List.mem_singleton.mp ha]; rfl) (List.pairwise_singleton _ _)
    rw [List.reverse_nil, List.nil_append, List.pairwise_reverse]
    refine List.Pairwise.imp_of_mem ?_ B.ord
    intro a b ha hb hab
    exact log_lt B.red ha hb hab
  show spanL bs.reverse [0] = sortN (spanL bs [0])
  refine sorted_eq (asc.imp fun h => Nat.le_of_lt h) (sortN_sorted _) ?_
  exact (spanL_perm (List.reverse_perm _) (List.Perm.refl _)).trans (sortN_perm _).symm
end
end Law
set_option Elab.async false
set_option linter.all false
set_option maxRecDepth 100000
set_option maxHeartbeats 1000000
namespace Law
open Mi Gf
section
variable {n : Nat} {h : Hh}
theorem iv_pow {a b : Nat} (hs : (a.log2 + 1) * b < 100000) : binV .pow h (iv a) (iv b) = some (iv (a ^ b)) := by
  show (match (if (a.log2 + 1) * b < 100000 then some ((a : Int) ^ b) else none) with
    | some k => some (Vl.int k)
    | none => none) = _
  rw [if_pos hs]
  show some (Vl.int ((a : Int) ^ b)) = some (Vl.int ((a ^ b : Nat) : Int))
  rw [Int.natCast_pow]
theorem abs_iv (c : Int) : bifV .abs h [.int c] = some (iv c.natAbs) := by
  show some (Vl.int (if c < 0 then -c else c)) = some (Vl.int (c.natAbs : Int))
  congr 2
  split <;> omega
theorem cut_iv (a b : Nat) : ∃ k : Nat, (match binV .sub h (iv a) (iv b) with
    | some x => bifV .max2 h [iv 0, x]
    | none => none) = some (iv k) := by
  refine ⟨a - b, ?_⟩
  show some (Vl.int (if ((a : Int) - b) > (0 : Int) then (a : Int) - b else 0)) = some (Vl.int ((a - b : Nat) : Int))
  congr 2
  split <;> omega
theorem int_bl (b : Bool) : ∃ k : Nat, bifV .int h [.bl b] = some (iv k) := by
  cases b with
  | true => exact ⟨1, rfl⟩
  | false => exact ⟨0, rfl⟩
theorem scr_sub {ns : List Int} {s : Nat} (hs : s < ns.length) : subV h (.scr (ns.map .int)) (iv s) = some (.int ns[s]) := by
  show (match Mi.ixN (ns.map Vl.int).length (s : Int) with
    | some j => (ns.map Vl.int)[j]?
    | none => none) = _
  have : Mi.ixN (ns.map Vl.int).length (s : Int) = some s := by
    show (if s < (ns.map Vl.int).length then some s else none) = _
    rw [if_pos (by rw [List.length_map]; exact hs)]
  rw [this]
  show (ns.map Vl.int)[s]? = _
  rw [List.getElem?_map, List.getElem?_eq_getElem hs]
  rfl
theorem scr_len (ns : List Int) : bifV .len h [.scr (ns.map .int)] = some (iv ns.length) := by
  show some (Vl.int ((ns.map Vl.int).length : Nat)) = _
  rw [List.length_map]
  rfl
theorem pail_at (a b c : Nat) : Pail (h ++ [.lst [iv a, iv b, iv c]]) h.length := ⟨a, b, c, get_last _ _⟩
end
end Law
set_option Elab.async false
set_option linter.all false
set_option maxRecDepth 100000
set_option maxHeartbeats 1000000
namespace Law
open Mi Gf
theorem forL_k {turn : Vl → Env → Hh → R Oc} (I : Nat → Env → Hh → Prop) (m : Nat) (k : ∀ x j env h, j < m → I j env h → ∃ env' h', turn x env h = .ok (.nx env') h' ∧ I (j + 1) env' h') : ∀ {xs : List Vl} {j : Nat} {env : Env} {h : Hh}, I j env h → j + xs.length ≤ m → ∃ env' h', forL turn xs env h = .ok (.nx env') h' ∧ I (j + xs.length) env' h'
  | [], j, env, h, i, _ => ⟨env, h, rfl, i⟩
  | x :: xs, j, env, h, i, hm => by
    rw [List.length_cons] at hm
    obtain ⟨env1, h1, e1, i1⟩ := k x j env h (by omega) i
    obtain ⟨env2, h2, e2, i2⟩ := forL_k I m k i1 (show (j + 1) + xs.length ≤ m by omega)
    refine ⟨env2, h2, ?_, ?_⟩
    · show (match turn x env h with
        | .ok (.nx env1) h1 => forL turn xs env1 h1
        | .ok (.ct env1) h1 => forL turn xs env1 h1
        | .ok (.bk env1) h1 => .ok (.nx env1) h1
        | .ok (.rt v) h1 => .ok (.rt v) h1
        | .exc c p h1 => .exc c p h1
        | .bad => .bad) = _
      rw [e1]
      exact e2
    · rw [List.length_cons, show j + (xs.length + 1) = j + 1 + xs.length by omega]
      exact i2
def Pure (h : Hh) : Prop := ∀ o ∈ h, ∃ ws : List Nat, o = .lst (ws.map iv)
theorem Pure.wf (n0 : Nat) : ∀ {h : Hh}, Pure h → wfH n0 h = true
  | [], _ => rfl
  | o :: r, p => by
    obtain ⟨ws, e⟩ := p o List.mem_cons_self
    have := Pure.wf n0 (h := r) fun o ho => p o (List.mem_cons_of_mem _ ho)
    show (match wfO n0 o with
      | true => wfH n0 r
      | false => false) = _
    rw [e, show wfO n0 (.lst (ws.map iv)) = true from wfL_iv n0 ws]
    exact this
theorem Pure.drew {h h' : Hh} {p : Nat} (a : Pure h) (d : Drew h h' p) : Pure h' := by
  obtain ⟨⟨g, s, c, e⟩, o, rfl⟩ := d
  intro x hx
  rcases List.mem_or_eq_of_mem_set hx with z | z
  · exact a x z
  · have hl := (List.getElem?_eq_some_iff.mp e).1
    rw [List.length_set] at hl
    rw [List.getElem?_set_self hl] at e
    injection e with e
    exact ⟨[g, s, c], by rw [z, e]; rfl⟩
theorem Pure.app {h : Hh} (a : Pure h) (ws : List Nat) : Pure (h ++ [.lst (ws.map iv)]) := by
  intro x hx
  rcases List.mem_append.mp hx with z | z
  · exact a x z
  · exact ⟨ws, List.mem_singleton.mp z⟩
theorem Pail.lt {h : Hh} {p : Nat} (hp : Pail h p) : p < h.length := by
  obtain ⟨_, _, _, e⟩ := hp
  exact (List.getElem?_eq_some_iff.mp e).1
def Beside (h0 : Hh) (p : Nat) (ws : List Nat) (h' : Hh) : Prop := ∃ h1, Drew h0 h1 p ∧ h' = h1 ++ [.lst (ws.map iv)]
section
variable {h0 h' h'' : Hh} {p : Nat} {ws : List Nat}
theorem Beside.at (b : Beside h0 p ws h') : h'[h0.length]? = some (.lst (ws.map iv)) := by
  obtain ⟨h1, d, rfl⟩ := b
  rw [← d.len]
  exact get_last _ _
theorem Beside.pail (b : Beside h0 p ws h') : Pail h' p := by
  obtain ⟨h1, d, rfl⟩ := b
  obtain ⟨g, s, c, e⟩ := d.1
  exact ⟨g, s, c, by rw [List.getElem?_append_left (Pail.lt d.1)]; exact e⟩
theorem Beside.ne (b : Beside h0 p ws h') : p ≠ h0.length := by
  obtain ⟨h1, d, rfl⟩ := b
  have := Pail.lt d.1
  rw [d.len] at this
  omega
theorem Beside.draw (b : Beside h0 p ws h') (d : Drew h' h'' p) : Beside h0 p ws h'' := by
  obtain ⟨h1, d1, rfl⟩ := b
  obtain ⟨q, o, rfl⟩ := d
  have hl := Pail.lt d1.1
  have e : (h1 ++ [Ob.lst (ws.map iv)]).set p o = h1.set p o ++ [.lst (ws.map iv)] := List.set_append_left _ _ hl
  rw [e] at q ⊢
  refine ⟨h1.set p o, d1.trans ⟨?_, o, rfl⟩, rfl⟩
  obtain ⟨g, s, c, e2⟩ := q
  rw [List.getElem?_append_left (by rw [List.length_set]; exact hl)] at e2
  exact ⟨g, s, c, e2⟩
theorem Beside.app (b : Beside h0 p ws h') (hz : ws.length < line) (w : Nat) : ∃ h'', mthV .append h' (.ref h0.length) [iv w] = .ok .non h'' ∧ Beside h0 p (ws ++ [w]) h'' := by
  have ha := b.at
  obtain ⟨h1, d, rfl⟩ := b
  refine ⟨h1 ++ [.lst ((ws ++ [w]).map iv)], ?_, h1, d, rfl⟩
  show (match (h1 ++ [Ob.lst (ws.map iv)])[h0.length]? with
    | some (.lst l) => if l.length < line then R.ok Vl.non ((h1 ++ [Ob.lst (ws.map iv)]).set h0.length (.lst (l ++ [iv w]))) else .bad
    | _ => .bad) = _
  rw [ha]
  dsimp only
  rw [if_pos (by rw [List.length_map]; exact hz), ← d.len, set_last, List.map_append]
  rfl
theorem Beside.len (b : Beside h0 p ws h') : bifV .len h' [.ref h0.length] = some (iv ws.length) := by
  show (match h'[h0.length]? with
    | some (.lst xs) => some (Vl.int (xs.length : Nat))
    | some (.dct xs) => some (.int (xs.length : Nat))
    | _ => none) = _
  rw [b.at]
  exact len_words ws
theorem Beside.rcv (b : Beside h0 p ws h') : rcv .append h' (.ref h0.length) = true := by
  show (match h'[h0.length]? with
    | some (.lst _) => true
    | _ => false) = true
  rw [b.at]
theorem Beside.tuple (b : Beside h0 p ws h') : bifV .tuple h' [.ref h0.length] = some (.tup (ws.map iv)) := by
  show (match (match h'[h0.length]? with
    | some (.lst xs) => some xs
    | _ => none) with
    | some l => some (Vl.tup l)
    | none => none) = _
  rw [b.at]
theorem Beside.fin (b : Beside h0 p ws h') (hp : Pure h0) {us : List Nat} : ∃ h1, endF true h0.length (.ok (.rt (.tup (us.map iv))) h') = .ok (.tup (us.map iv)) h1 ∧ Drew h0 h1 p := by
  obtain ⟨h1, d, rfl⟩ := b
  refine ⟨h1, ?_, d⟩
  have hd : decide ((h1 ++ [Ob.lst (ws.map iv)]).length ≤ h0.length) = false := by
    rw [decide_eq_false]
    rw [List.length_append, List.length_singleton, d.len]
    omega
  have hf : frV (h1 ++ [.lst (ws.map iv)]) h0.length 30 (.tup (us.map iv)) = some (.tup (us.map iv)) := by
    show (match mapO (frV (h1 ++ [.lst (ws.map iv)]) h0.length 29) (us.map iv) with
      | some l => some (Vl.tup l)
      | none => none) = _
    rw [mapO_iv _ _ 28]
  have ht : (h1 ++ [Ob.lst (ws.map iv)]).take h0.length = h1 := by
    rw [← d.len]
    exact take_app _ _
  unfold endF Mi.fin
  dsimp only
  rw [hd]
  dsimp only
  rw [hf]
  dsimp only
  rw [show wfV h0.length (.tup (us.map iv)) = true from by simp only [wfV, wfL_iv], ht, (hp.drew d).wf]
end
end Law
set_option Elab.async false
set_option linter.all false
set_option maxRecDepth 100000
set_option maxHeartbeats 1000000
namespace Law
open Mi Gf
section
variable {n : Nat} {h : Hh}
theorem o_len (ws : List Nat) : bifV .len h [.lst (ws.map fun _ => iv 1)] = some (iv ws.length) := by
  show some (Vl.int ((ws.map fun _ => iv 1).length : Nat)) = _
  rw [List.length_map]
  rfl
theorem o_bitlen (w : Nat) : mthV .bitlen h (iv w) [] = .ok (iv (bits w)) h := bits_iv w
theorem q_bits {w : Nat} (hw : w < 2 ^ 24) : run GG FF (n + 1) 31 [iv w] h = .ok (iv (ones 24 w)) h := by
  refine run_ret (d := f31) rfl rfl ?_
  have hb := bits_le hw
  have c : evF GG (run GG FF n) (.comp [1] (.n 1) (.range (.acons (.mth .bitlen (.var 0) .anil) .anil)) (.sm (.cmp .eq (.bin .and (.bin .shr (.var 0) (.var 1)) (.int 1)) (.int 1))) (.int 1)) [some (iv w), none] h = .ok (((List.range (bits w)).filter fun p => w.testBit p).map fun _ => iv 1) h := by
    rw [ev_comp]
    have ew := range_ev (G := GG) (cf := run GG FF n) (env := [some (iv w), none]) (h := h) (l := bits w) (as := (.acons (.mth .bitlen (.var 0) .anil) .anil)) (by omega) (by
      simp only [evS, evE, evA, evF, evW, part1, part0, evC, List.getElem?_cons_zero, List.getElem?_cons_succ, putE, List.set_cons_zero, List.set_cons_succ, tgV, putEs, wipeE, walkC, walkF, bnd_ok', lift_some, bndS_nx, bndS_rt, iv_xor, iv_and, iv_add, iv_axor, iv_aadd, iv_eq, iv_ne, iv_lt, iv_gt, iv_le, tru_bl, int0, int1, int2, rcv, o_bitlen])
    rw [ew, bnd_ok']
    show compL (turnC GG (run GG FF n) _ _ _ _ _) ((List.range (bits w)).map iv) [] h = _
    rw [compL_filter (p := fun p => w.testBit p) (k := fun _ => iv 1) (by have := line_big; simp; omega) fun p hp => ?_, List.nil_append]
    unfold turnC
    simp only [evS, evE, evA, evF, evW, part1, part0, evC, List.getElem?_cons_zero, List.getElem?_cons_succ, putE, List.set_cons_zero, List.set_cons_succ, tgV, putEs, wipeE, walkC, walkF, bnd_ok', lift_some, bndS_nx, bndS_rt, iv_xor, iv_and, iv_add, iv_axor, iv_aadd, iv_eq, iv_ne, iv_lt, iv_gt, iv_le, tru_bl, int0, int1, int2, o_shr, o_bit]
    cases w.testBit p with
    | true => simp only [evS, evE, evA, evF, evW, part1, part0, evC, List.getElem?_cons_zero, List.getElem?_cons_succ, putE, List.set_cons_zero, List.set_cons_succ, tgV, putEs, wipeE, walkC, walkF, bnd_ok', lift_some, bndS_nx, bndS_rt, iv_xor, iv_and, iv_add, iv_axor, iv_aadd, iv_eq, iv_ne, iv_lt, iv_gt, iv_le, tru_bl, int0, int1, int2, if_true]
    | false => simp only [evS, evE, evA, evF, evW, part1, part0, evC, List.getElem?_cons_zero, List.getElem?_cons_succ, putE, List.set_cons_zero, List.set_cons_succ, tgV, putEs, wipeE, walkC, walkF, bnd_ok', lift_some, bndS_nx, bndS_rt, iv_xor, iv_and, iv_add, iv_axor, iv_aadd, iv_eq, iv_ne, iv_lt, iv_gt, iv_le, tru_bl, int0, int1, int2, Bool.false_eq_true, if_false]
  have e : ((List.range (bits w)).filter fun p => w.testBit p).length = ones 24 w := by
    rw [ones_filter]
    refine ones_lt ?_ hb
    unfold bits
    split
    · rename_i z; subst z; decide
    · exact Nat.lt_log2_self
  show bnd (bnd (bnd (bnd (evF GG (run GG FF n) (.comp [1] (.n 1) (.range (.acons (.mth .bitlen (.var 0) .anil) .anil)) (.sm (.cmp .eq (.bin .and (.bin .shr (.var 0) (.var 1)) (.int 1)) (.int 1))) (.int 1)) [some (iv w), none] h) _) _) _) _ = _
  rw [c, bnd_ok']
  simp only [evS, evE, evA, evF, evW, part1, part0, evC, List.getElem?_cons_zero, List.getElem?_cons_succ, putE, List.set_cons_zero, List.set_cons_succ, tgV, putEs, wipeE, walkC, walkF, bnd_ok', lift_some, bndS_nx, bndS_rt, iv_xor, iv_and, iv_add, iv_axor, iv_aadd, iv_eq, iv_ne, iv_lt, iv_gt, iv_le, tru_bl, int0, int1, int2, o_len, e]
theorem q_sum {v : Vl} {ws : List Nat} (i : Its h v ws) (hz : ws.length < 100000) : run GG FF (n + 1) 32 [v] h = .ok (iv (sumX ws)) h := by
  refine run_ret (d := f32) rfl rfl ?_
  have hfu : ws.length < fuelW := by
    have : (100000 : Nat) < fuelW := by decide
    omega
  have q := for_its (G := GG) (cf := run GG FF n) (tg := .n 2) (b := (.set 1 (.bin .xor (.var 1) (.var 2)))) (e := .var 0) (env := [some v, some (iv 0), none]) (h := h) (v := v) (ws := ws) rfl i hfu
    (fun s : Nat × Option Vl => [some v, some (iv s.1), s.2]) (fun s w => (s.1 ^^^ w, some (iv w))) (fun s => True) (0, none) rfl trivial (fun w hw' s _ => by
      refine ⟨?_, trivial⟩
      unfold turnF
      simp only [evS, evE, evA, evF, evW, part1, part0, evC, List.getElem?_cons_zero, List.getElem?_cons_succ, putE, List.set_cons_zero, List.set_cons_succ, tgV, putEs, wipeE, walkC, walkF, bnd_ok', lift_some, bndS_nx, bndS_rt, iv_xor, iv_and, iv_add, iv_axor, iv_aadd, iv_eq, iv_ne, iv_lt, iv_gt, iv_le, tru_bl, int0, int1, int2])
  have f : ∀ (l : List Nat) (s : Nat × Option Vl), (l.foldl (fun s w => (s.1 ^^^ w, some (iv w))) s).1 = l.foldl (· ^^^ ·) s.1 := by
    intro l
    induction l with
    | nil => intro s; rfl
    | cons b l ih => intro s; exact ih _
  show evS GG (run GG FF n) (.seq (.set 1 (.int 0)) (.seq (.fors (.n 2) (.over (.var 0)) (.set 1 (.bin .xor (.var 1) (.var 2)))) (.ret (.var 1)))) [some v, none, none] h = _
  rw [ev_seq]
  have s1 : evS GG (run GG FF n) (.set 1 (.int 0)) [some v, none, none] h = .ok (.nx [some v, some (iv 0), none]) h := by
    simp only [evS, evE, evA, evF, evW, part1, part0, evC, List.getElem?_cons_zero, List.getElem?_cons_succ, putE, List.set_cons_zero, List.set_cons_succ, tgV, putEs, wipeE, walkC, walkF, bnd_ok', lift_some, bndS_nx, bndS_rt, iv_xor, iv_and, iv_add, iv_axor, iv_aadd, iv_eq, iv_ne, iv_lt, iv_gt, iv_le, tru_bl, int0, int1, int2]
  rw [s1, bndS_nx, ev_seq, q, bndS_nx]
  simp only [evS, evE, evA, evF, evW, part1, part0, evC, List.getElem?_cons_zero, List.getElem?_cons_succ, putE, List.set_cons_zero, List.set_cons_succ, tgV, putEs, wipeE, walkC, walkF, bnd_ok', lift_some, bndS_nx, bndS_rt, iv_xor, iv_and, iv_add, iv_axor, iv_aadd, iv_eq, iv_ne, iv_lt, iv_gt, iv_le, tru_bl, int0, int1, int2, f]
  rfl
theorem q_rest {v : Vl} {bs : List Nat} (i : Its h v bs) (hb : ∀ b ∈ bs, b ≠ 0) (hz : bs.length < fuelW) (w : Nat) : run GG FF (n + 1) 33 [v, iv w] h = .ok (iv (rem bs w)) h := by
  refine run_ret (d := f33) rfl rfl ?_
  have q := for_its (G := GG) (cf := run GG FF n) (tg := .n 2) (b := (.set 1 (.bif .min2 (.acons (.var 1) (.acons (.bin .xor (.var 1) (.var 2)) .anil))))) (e := .var 0) (env := [some v, some (iv w), none]) (h := h) (v := v) (ws := bs) rfl i hz
    (fun s : Nat × Option Vl => [some v, some (iv s.1), s.2]) (fun s b => (if s.1.testBit b.log2 then s.1 ^^^ b else s.1, some (iv b))) (fun _ => True) (w, none) rfl trivial (fun b hb' s _ => by
      refine ⟨?_, trivial⟩
      unfold turnF
      simp only [evS, evE, evA, evF, evW, part1, part0, evC, List.getElem?_cons_zero, List.getElem?_cons_succ, putE, List.set_cons_zero, List.set_cons_succ, tgV, putEs, wipeE, walkC, walkF, bnd_ok', lift_some, bndS_nx, bndS_rt, iv_xor, iv_and, iv_add, iv_axor, iv_aadd, iv_eq, iv_ne, iv_lt, iv_gt, iv_le, tru_bl, int0, int1, int2, o_min, min_bit (hb b hb')])
  have f : ∀ (l : List Nat) (s : Nat × Option Vl), (l.foldl (fun s b => (if s.1.testBit b.log2 then s.1 ^^^ b else s.1, some (iv b))) s).1 = rem l s.1 := by
    intro l
    induction l with
    | nil => intro s; rfl
    | cons b l ih => intro s; rw [List.foldl_cons, ih]; rfl
  show evS GG (run GG FF n) (.seq (.fors (.n 2) (.over (.var 0)) (.set 1 (.bif .min2 (.acons (.var 1) (.acons (.bin .xor (.var 1) (.var 2)) .anil))))) (.ret (.var 1))) [some v, some (iv w), none] h = _
  rw [ev_seq, q, bndS_nx]
  simp only [evS, evE, evA, evF, evW, part1, part0, evC, List.getElem?_cons_zero, List.getElem?_cons_succ, putE, List.set_cons_zero, List.set_cons_succ, tgV, putEs, wipeE, walkC, walkF, bnd_ok', lift_some, bndS_nx, bndS_rt, iv_xor, iv_and, iv_add, iv_axor, iv_aadd, iv_eq, iv_ne, iv_lt, iv_gt, iv_le, tru_bl, int0, int1, int2, f]
theorem q_lbasis {v : Vl} {ws : List Nat} (i : Its h v ws) (hw : ∀ w ∈ ws, w < 2 ^ 24) (hz : ws.length ≤ 100000) : run GG FF (n + 2) 34 [v] h = .ok (.tup ((basis ws).map iv)) h := by
  refine run_ret (d := f34) rfl rfl ?_
  have hfu : ws.length < fuelW := by
    have : (100000 : Nat) < fuelW := by decide
    omega
  have h0 : decide (([] : List Vl).length ≤ line) = true := decide_eq_true (Nat.zero_le _)
  have one : ∀ x : Vl, decide ([x].length ≤ line) = true := fun x => decide_eq_true (by show 1 ≤ line; decide)
  have q := for_its (G := GG) (cf := run GG FF (n + 1)) (tg := .n 2) (b := (.seq (.set 3 (.call 33 (.acons (.fz (.srt true (.var 1))) (.acons (.var 2) .anil)))) (.ifs (.cmp .gt (.var 3) (.int 0)) (.set 1 (.fz (.cat (.fz (.comp [4] (.n 4) (.over (.var 1)) .noe (.ite (.and (.cmp .gt (.var 4) (.var 3)) (.cmp .eq (.bin .and (.bin .shr (.var 4) (.bin .sub (.mth .bitlen (.var 3) .anil) (.int 1))) (.int 1)) (.int 1))) (.bif .min2 (.acons (.var 4) (.acons (.bin .xor (.var 4) (.var 3)) .anil))) (.var 4)))) (.fz (.disp (.acons (.var 3) .anil)))))) .skip))) (e := .var 0) (env := [some v, some (.lst []), none, none, none]) (h := h) (v := v) (ws := ws) rfl i hfu
    (fun s : List Nat × Option Vl × Option Vl => [some v, some (.lst (s.1.map iv)), s.2.1, s.2.2, none]) (fun s w => (lbStep s.1 w, some (iv w), some (iv (rem (desc s.1) w)))) (fun s => ∃ pre, LB s.1 pre) ([], none, none) rfl ⟨[], LB.nil⟩ (fun w hw' s L => by
      obtain ⟨pre, L⟩ := L
      refine ⟨?_, _, L.step (hw w hw')⟩
      have hlen := L.len
      rw [← line_pow] at hlen
      have hd : (desc s.1).length = s.1.length := (desc_perm _).length_eq
      have hle := bas_le L.desc
      have hfs : s.1.length < fuelW := by
        have : 100 < fuelW := by decide
        omega
      have hr := q_rest (n := n) (h := h) (v := .lst ((desc s.1).map iv)) its_lst (fun b hb => L.red.pos b ((desc_perm _).mem_iff.mp hb)) (by
        have : 100 < fuelW := by decide
        omega) w
      have hoff : ∀ b ∈ s.1, (rem (desc s.1) w).testBit b.log2 = false := fun b hb => rem_head (desc_red L.red) w b ((desc_perm s.1).mem_iff.mpr hb)
      unfold turnF
      simp only [evS, evE, evA, f_disp, f_cat, f_listof, f_srt, evW, part1, part0, evC, List.getElem?_cons_zero, List.getElem?_cons_succ, putE, List.set_cons_zero, List.set_cons_succ, tgV, putEs, wipeE, walkC, walkF, bnd_ok', lift_some, bndS_nx, bndS_rt, iv_xor, iv_and, iv_add, iv_axor, iv_aadd, iv_eq, iv_ne, iv_lt, iv_gt, iv_le, tru_bl, int0, int1, int2, lstOf, ints_iv, srt_desc, hr]
      unfold lbStep
      by_cases hz : rem (desc s.1) w = 0
      · simp only [hz, Nat.lt_irrefl, decide_false, if_true, evS, evE, evA, evF, evW, part1, part0, evC, List.getElem?_cons_zero, List.getElem?_cons_succ, putE, List.set_cons_zero, List.set_cons_succ, tgV, putEs, wipeE, walkC, walkF, bnd_ok', lift_some, bndS_nx, bndS_rt, iv_xor, iv_and, iv_add, iv_axor, iv_aadd, iv_eq, iv_ne, iv_lt, iv_gt, iv_le, tru_bl, int0, int1, int2]
      · have hpos : 0 < rem (desc s.1) w := Nat.pos_of_ne_zero hz
        generalize rem (desc s.1) w = r at *
        have c : evF GG (run GG FF (n + 1)) (.comp [4] (.n 4) (.over (.var 1)) .noe (.ite (.and (.cmp .gt (.var 4) (.var 3)) (.cmp .eq (.bin .and (.bin .shr (.var 4) (.bin .sub (.mth .bitlen (.var 3) .anil) (.int 1))) (.int 1)) (.int 1))) (.bif .min2 (.acons (.var 4) (.acons (.bin .xor (.var 4) (.var 3)) .anil))) (.var 4))) [some v, some (.lst (s.1.map iv)), some (iv w), some (iv r), none] h = .ok ((s.1.map (clr r)).map iv) h := by
          have := comp_its_all (G := GG) (cf := run GG FF (n + 1)) (tg := .n 4) (own := [4]) (el := (.ite (.and (.cmp .gt (.var 4) (.var 3)) (.cmp .eq (.bin .and (.bin .shr (.var 4) (.bin .sub (.mth .bitlen (.var 3) .anil) (.int 1))) (.int 1)) (.int 1))) (.bif .min2 (.acons (.var 4) (.acons (.bin .xor (.var 4) (.var 3)) .anil))) (.var 4))) (e := .var 1) (env := [some v, some (.lst (s.1.map iv)), some (iv w), some (iv r), none]) (h := h) (v := .lst (s.1.map iv)) (ws := s.1) (fun b => iv (clr r b)) rfl its_lst hfs fun b hb => by
            have ct := clr_text (L.red.pos b hb) hz (hoff b hb)
            have hbits : bits r = r.log2 + 1 := by unfold bits; rw [if_neg hz]
            unfold turnC
            simp only [evS, evE, evA, evF, evW, part1, part0, evC, List.getElem?_cons_zero, List.getElem?_cons_succ, putE, List.set_cons_zero, List.set_cons_succ, tgV, putEs, wipeE, walkC, walkF, bnd_ok', lift_some, bndS_nx, bndS_rt, iv_xor, iv_and, iv_add, iv_axor, iv_aadd, iv_eq, iv_ne, iv_lt, iv_gt, iv_le, tru_bl, int0, int1, int2]
            by_cases h1 : r < b
            · simp only [decide_eq_true h1, evS, evE, evA, evF, evW, part1, part0, evC, List.getElem?_cons_zero, List.getElem?_cons_succ, putE, List.set_cons_zero, List.set_cons_succ, tgV, putEs, wipeE, walkC, walkF, bnd_ok', lift_some, bndS_nx, bndS_rt, iv_xor, iv_and, iv_add, iv_axor, iv_aadd, iv_eq, iv_ne, iv_lt, iv_gt, iv_le, tru_bl, int0, int1, int2, rcv, o_bitlen, hbits, o_sub (show 1 ≤ r.log2 + 1 by omega), Nat.add_sub_cancel, o_shr, o_bit]
              rw [decide_eq_true h1, Bool.true_and] at ct
              cases hbt : b.testBit r.log2 with
              | true =>
                rw [hbt, if_pos rfl] at ct
                simp only [evS, evE, evA, evF, evW, part1, part0, evC, List.getElem?_cons_zero, List.getElem?_cons_succ, putE, List.set_cons_zero, List.set_cons_succ, tgV, putEs, wipeE, walkC, walkF, bnd_ok', lift_some, bndS_nx, bndS_rt, iv_xor, iv_and, iv_add, iv_axor, iv_aadd, iv_eq, iv_ne, iv_lt, iv_gt, iv_le, tru_bl, int0, int1, int2, o_min, ct]
              | false =>
                rw [hbt, if_neg Bool.false_ne_true] at ct
                simp only [evS, evE, evA, evF, evW, part1, part0, evC, List.getElem?_cons_zero, List.getElem?_cons_succ, putE, List.set_cons_zero, List.set_cons_succ, tgV, putEs, wipeE, walkC, walkF, bnd_ok', lift_some, bndS_nx, bndS_rt, iv_xor, iv_and, iv_add, iv_axor, iv_aadd, iv_eq, iv_ne, iv_lt, iv_gt, iv_le, tru_bl, int0, int1, int2, ← ct]
            · rw [decide_eq_false h1, Bool.false_and, if_neg Bool.false_ne_true] at ct
              simp only [decide_eq_false h1, evS, evE, evA, evF, evW, part1, part0, evC, List.getElem?_cons_zero, List.getElem?_cons_succ, putE, List.set_cons_zero, List.set_cons_succ, tgV, putEs, wipeE, walkC, walkF, bnd_ok', lift_some, bndS_nx, bndS_rt, iv_xor, iv_and, iv_add, iv_axor, iv_aadd, iv_eq, iv_ne, iv_lt, iv_gt, iv_le, tru_bl, int0, int1, int2, ← ct]
          rw [List.map_map]
          exact this
        have hsz : ((s.1.map (clr r)).map iv).length + [iv r].length ≤ line := by simp; omega
        simp only [decide_eq_true hpos, if_neg hz, evS, evE, evA, f_disp, f_cat, f_listof, f_srt, evW, part1, part0, evC, List.getElem?_cons_zero, List.getElem?_cons_succ, putE, List.set_cons_zero, List.set_cons_succ, tgV, putEs, wipeE, walkC, walkF, bnd_ok', lift_some, bndS_nx, bndS_rt, iv_xor, iv_and, iv_add, iv_axor, iv_aadd, iv_eq, iv_ne, iv_lt, iv_gt, iv_le, tru_bl, int0, int1, int2, c, one, catV, lstOf, if_pos hsz]
        unfold more
        rw [List.map_append]
        rfl)
  have f : ∀ (l : List Nat) (s : List Nat × Option Vl × Option Vl), (l.foldl (fun s w => (lbStep s.1 w, some (iv w), some (iv (rem (desc s.1) w)))) s).1 = l.foldl lbStep s.1 := by
    intro l
    induction l with
    | nil => intro s; rfl
    | cons b l ih => intro s; rw [List.foldl_cons, ih]; rfl
  show evS GG (run GG FF (n + 1)) (.seq (.set 1 (.fz (.disp .anil))) (.seq (.fors (.n 2) (.over (.var 0)) (.seq (.set 3 (.call 33 (.acons (.fz (.srt true (.var 1))) (.acons (.var 2) .anil)))) (.ifs (.cmp .gt (.var 3) (.int 0)) (.set 1 (.fz (.cat (.fz (.comp [4] (.n 4) (.over (.var 1)) .noe (.ite (.and (.cmp .gt (.var 4) (.var 3)) (.cmp .eq (.bin .and (.bin .shr (.var 4) (.bin .sub (.mth .bitlen (.var 3) .anil) (.int 1))) (.int 1)) (.int 1))) (.bif .min2 (.acons (.var 4) (.acons (.bin .xor (.var 4) (.var 3)) .anil))) (.var 4)))) (.fz (.disp (.acons (.var 3) .anil)))))) .skip))) (.ret (.bif .tuple (.acons (.fz (.srt true (.var 1))) .anil))))) [some v, none, none, none, none] h = _
  rw [ev_seq]
  have s1 : evS GG (run GG FF (n + 1)) (.set 1 (.fz (.disp .anil))) [some v, none, none, none, none] h = .ok (.nx [some v, some (.lst []), none, none, none]) h := by
    simp only [evS, evE, evA, evF, evW, part1, part0, evC, List.getElem?_cons_zero, List.getElem?_cons_succ, putE, List.set_cons_zero, List.set_cons_succ, tgV, putEs, wipeE, walkC, walkF, bnd_ok', lift_some, bndS_nx, bndS_rt, iv_xor, iv_and, iv_add, iv_axor, iv_aadd, iv_eq, iv_ne, iv_lt, iv_gt, iv_le, tru_bl, int0, int1, int2, h0]
  rw [s1, bndS_nx, ev_seq, q, bndS_nx]
  have lt : ∀ l : List Vl, bifV .tuple h [.lst l] = some (.tup l) := fun l => rfl
  simp only [evS, evE, evA, evF, evW, part1, part0, evC, List.getElem?_cons_zero, List.getElem?_cons_succ, putE, List.set_cons_zero, List.set_cons_succ, tgV, putEs, wipeE, walkC, walkF, bnd_ok', lift_some, bndS_nx, bndS_rt, iv_xor, iv_and, iv_add, iv_axor, iv_aadd, iv_eq, iv_ne, iv_lt, iv_gt, iv_le, tru_bl, int0, int1, int2, lstOf, ints_iv, srt_desc, f, lb_basis hw, lt]
end
end Law
set_option Elab.async false
set_option linter.all false
set_option maxRecDepth 100000
set_option maxHeartbeats 1000000
namespace Law
open Mi Gf
section
variable {n : Nat} {h : Hh}
theorem q_lcut (w : Nat) {ps : List Nat} (hz : ps.length ≤ 24) : run GG FF (n + 1) 41 [iv w, .tup (ps.map iv)] h = .ok (iv (cutF 0 w ps)) h := by
  refine run_ret (d := f41) rfl rfl ?_
  have c : evF GG (run GG FF n) (.comp [2, 3] (.t [2, 3]) (.enum (.var 1)) (.sm (.cmp .eq (.bin .and (.bin .shr (.var 0) (.var 3)) (.int 1)) (.int 1))) (.bin .shl (.int 1) (.var 2))) [some (iv w), some (.tup (ps.map iv)), none, none] h = .ok (((List.range ps.length).filter fun i => w.testBit (ps.getD i 0)).map fun i => iv (2 ^ i)) h := by
    refine comp_enum (fun i => w.testBit (ps.getD i 0)) (fun i => iv (2 ^ i)) rfl (by omega) fun i hi => ?_
    unfold turnC
    simp only [evS, evE, evA, evF, evW, part1, part0, evC, List.getElem?_cons_zero, List.getElem?_cons_succ, putE, List.set_cons_zero, List.set_cons_succ, tgV, putEs, wipeE, walkC, walkF, bnd_ok', lift_some, bndS_nx, bndS_rt, iv_xor, iv_and, iv_add, iv_axor, iv_aadd, iv_eq, iv_ne, iv_lt, iv_gt, iv_le, tru_bl, int0, int1, int2, o_shr, o_bit, o_shl (show i ≤ 1000 by omega)]
    cases w.testBit (ps.getD i 0) with
    | true => simp only [evS, evE, evA, evF, evW, part1, part0, evC, List.getElem?_cons_zero, List.getElem?_cons_succ, putE, List.set_cons_zero, List.set_cons_succ, tgV, putEs, wipeE, walkC, walkF, bnd_ok', lift_some, bndS_nx, bndS_rt, iv_xor, iv_and, iv_add, iv_axor, iv_aadd, iv_eq, iv_ne, iv_lt, iv_gt, iv_le, tru_bl, int0, int1, int2, if_true]
    | false => simp only [evS, evE, evA, evF, evW, part1, part0, evC, List.getElem?_cons_zero, List.getElem?_cons_succ, putE, List.set_cons_zero, List.set_cons_succ, tgV, putEs, wipeE, walkC, walkF, bnd_ok', lift_some, bndS_nx, bndS_rt, iv_xor, iv_and, iv_add, iv_axor, iv_aadd, iv_eq, iv_ne, iv_lt, iv_gt, iv_le, tru_bl, int0, int1, int2, Bool.false_eq_true, if_false]
  have e : (((List.range ps.length).filter fun i => w.testBit (ps.getD i 0)).map fun i => iv (2 ^ i)) = (((List.range ps.length).filter fun i => w.testBit (ps.getD i 0)).map (2 ^ ·)).map iv := by
    rw [List.map_map]
    rfl
  have s : (((List.range ps.length).filter fun i => w.testBit (ps.getD i 0)).map (2 ^ ·)).sum = cutF 0 w ps := by
    rw [sum_xorP (List.Pairwise.filter _ List.nodup_range), cut_xorP]
  show bnd (bnd (bnd (bnd (evF GG (run GG FF n) (.comp [2, 3] (.t [2, 3]) (.enum (.var 1)) (.sm (.cmp .eq (.bin .and (.bin .shr (.var 0) (.var 3)) (.int 1)) (.int 1))) (.bin .shl (.int 1) (.var 2))) [some (iv w), some (.tup (ps.map iv)), none, none] h) _) _) _) _ = _
  rw [c, bnd_ok']
  simp only [evS, evE, evA, evF, evW, part1, part0, evC, List.getElem?_cons_zero, List.getElem?_cons_succ, putE, List.set_cons_zero, List.set_cons_succ, tgV, putEs, wipeE, walkC, walkF, bnd_ok', lift_some, bndS_nx, bndS_rt, iv_xor, iv_and, iv_add, iv_axor, iv_aadd, iv_eq, iv_ne, iv_lt, iv_gt, iv_le, tru_bl, int0, int1, int2, bifV, arg1, ofInts, lstOf, e, ints_iv, sumI_iv, s]
  rfl
theorem ev_ifs {G : GT} {cf : CF} {c : Ex} {a b : St} {env : Env} {h : Hh} : evS G cf (.ifs c a b) env h = bnd (evE G cf c env h) fun x h => match truth h x with
  | some true => evS G cf a env h
  | some false => evS G cf b env h
  | none => .bad := rfl
theorem ld_turn {l f : Nat} {bs : List Nat} (B : BasN l bs) (hl : l ≤ 24) (hf : f < l) {fs : List Nat} (hz : fs.length ≤ 1000) {L x5 x6 : Option Vl} :
    evS GG (run GG FF (n + 1)) (.ifs (.cmp .notin (.var 4) (.var 2)) (.ex (.mth .append (.var 3) (.acons (.call 32 (.acons (.fz (.cat (.fz (.disp (.acons (.bin .shl (.int 1) (.var 4)) .anil))) (.fz (.comp [6, 5] (.t [6, 5]) (.zip (.var 2) (.var 1)) (.sm (.cmp .eq (.bin .and (.bin .shr (.var 5) (.var 4)) (.int 1)) (.int 1))) (.bin .shl (.int 1) (.var 6)))))) .anil)) .anil))) .skip) [L, some (.tup (bs.map iv)), some (.lst ((bs.map Nat.log2).map iv)), some (.ref h.length), some (iv f), x5, x6] (h ++ [.lst ((fs.map (chk bs)).map iv)]) =
      .ok (.nx [L, some (.tup (bs.map iv)), some (.lst ((bs.map Nat.log2).map iv)), some (.ref h.length), some (iv f), x5, x6]) (h ++ [.lst (((if (!(bs.map Nat.log2).contains f) = true then fs ++ [f] else fs).map (chk bs)).map iv)]) := by
  have big := line_big
  have hlen := bas_le B
  have hfr : (!(bs.map Nat.log2).contains f) = true → f ∈ free l bs := fun z => by
    unfold free
    rw [List.mem_filter]
    exact ⟨List.mem_range.mpr hf, z⟩
  have hni : cmpV .notin (h ++ [.lst ((fs.map (chk bs)).map iv)]) (iv f) (.lst ((bs.map Nat.log2).map iv)) = some (!(bs.map Nat.log2).contains f) := by
    show (match isIn (h ++ [.lst ((fs.map (chk bs)).map iv)]) (iv f) (.lst ((bs.map Nat.log2).map iv)) with
      | some b => some (!b)
      | none => none) = _
    rw [in_iv]
  have c : evF GG (run GG FF (n + 1)) (.comp [6, 5] (.t [6, 5]) (.zip (.var 2) (.var 1)) (.sm (.cmp .eq (.bin .and (.bin .shr (.var 5) (.var 4)) (.int 1)) (.int 1))) (.bin .shl (.int 1) (.var 6))) [L, some (.tup (bs.map iv)), some (.lst ((bs.map Nat.log2).map iv)), some (.ref h.length), some (iv f), x5, x6] (h ++ [.lst ((fs.map (chk bs)).map iv)]) = .ok ((((bs.filter fun b => b.testBit f).map Nat.log2).map (2 ^ ·)).map iv) (h ++ [.lst ((fs.map (chk bs)).map iv)]) := by
    rw [ev_comp]
    have ew : evW GG (run GG FF (n + 1)) (.zip (.var 2) (.var 1)) [L, some (.tup (bs.map iv)), some (.lst ((bs.map Nat.log2).map iv)), some (.ref h.length), some (iv f), x5, x6] (h ++ [.lst ((fs.map (chk bs)).map iv)]) = .ok (.its (((bs.map Nat.log2).zip bs).map fun q => .tup [iv q.1, iv q.2])) (h ++ [.lst ((fs.map (chk bs)).map iv)]) := by
      rw [← zip_iv]
      rfl
    rw [ew, bnd_ok']
    show compL (turnC GG (run GG FF (n + 1)) _ _ _ _ _) (((bs.map Nat.log2).zip bs).map fun q => .tup [iv q.1, iv q.2]) [] _ = _
    rw [compL_filter (p := fun q : Nat × Nat => q.2.testBit f) (k := fun q => iv (2 ^ q.1)) (by simp; omega) fun q hq => ?_, List.nil_append, ← chk_text]
    · have mm : ∀ xs : List (Nat × Nat), (xs.map fun q => iv (2 ^ q.1)) = (xs.map fun q => 2 ^ q.1).map iv := fun xs => by rw [List.map_map]; rfl
      rw [mm]
    · obtain ⟨a, b⟩ := q
      have ha : a ≤ 1000 := by
        obtain ⟨x, hx, rfl⟩ := List.mem_map.mp (List.of_mem_zip hq).1
        have := head_lt B hx
        omega
      unfold turnC
      simp only [evS, evE, evA, evF, evW, part1, part0, evC, List.getElem?_cons_zero, List.getElem?_cons_succ, putE, List.set_cons_zero, List.set_cons_succ, tgV, putEs, wipeE, walkC, walkF, bnd_ok', lift_some, bndS_nx, bndS_rt, iv_xor, iv_and, iv_add, iv_axor, iv_aadd, iv_eq, iv_ne, iv_lt, iv_gt, iv_le, tru_bl, int0, int1, int2, o_shr, o_bit, o_shl ha]
      cases b.testBit f with
      | true => simp only [evS, evE, evA, evF, evW, part1, part0, evC, List.getElem?_cons_zero, List.getElem?_cons_succ, putE, List.set_cons_zero, List.set_cons_succ, tgV, putEs, wipeE, walkC, walkF, bnd_ok', lift_some, bndS_nx, bndS_rt, iv_xor, iv_and, iv_add, iv_axor, iv_aadd, iv_eq, iv_ne, iv_lt, iv_gt, iv_le, tru_bl, int0, int1, int2, if_true]
      | false => simp only [evS, evE, evA, evF, evW, part1, part0, evC, List.getElem?_cons_zero, List.getElem?_cons_succ, putE, List.set_cons_zero, List.set_cons_succ, tgV, putEs, wipeE, walkC, walkF, bnd_ok', lift_some, bndS_nx, bndS_rt, iv_xor, iv_and, iv_add, iv_axor, iv_aadd, iv_eq, iv_ne, iv_lt, iv_gt, iv_le, tru_bl, int0, int1, int2, Bool.false_eq_true, if_false]
  have d3 : evE GG (run GG FF (n + 1)) (.call 32 (.acons (.fz (.cat (.fz (.disp (.acons (.bin .shl (.int 1) (.var 4)) .anil))) (.fz (.comp [6, 5] (.t [6, 5]) (.zip (.var 2) (.var 1)) (.sm (.cmp .eq (.bin .and (.bin .shr (.var 5) (.var 4)) (.int 1)) (.int 1))) (.bin .shl (.int 1) (.var 6)))))) .anil)) [L, some (.tup (bs.map iv)), some (.lst ((bs.map Nat.log2).map iv)), some (.ref h.length), some (iv f), x5, x6] (h ++ [.lst ((fs.map (chk bs)).map iv)]) = .ok (iv (chk bs f)) (h ++ [.lst ((fs.map (chk bs)).map iv)]) := by
    have one : ∀ x : Vl, decide ([x].length ≤ line) = true := fun x => decide_eq_true (by show 1 ≤ line; decide)
    have hsz : [iv (2 ^ f)].length + ((((bs.filter fun b => b.testBit f).map Nat.log2).map (2 ^ ·)).map iv).length ≤ line := by
      have := List.length_filter_le (fun b => b.testBit f) bs
      simp
      omega
    have q := q_sum (n := n) (h := h ++ [.lst ((fs.map (chk bs)).map iv)]) (v := .lst (((f :: (bs.filter fun b => b.testBit f).map Nat.log2).map (2 ^ ·)).map iv)) its_lst (by
      have := List.length_filter_le (fun b => b.testBit f) bs
      simp
      omega)
    rw [sumX_pow] at q
    have e1 : [iv (2 ^ f)] ++ (((bs.filter fun b => b.testBit f).map Nat.log2).map (2 ^ ·)).map iv = ((f :: (bs.filter fun b => b.testBit f).map Nat.log2).map (2 ^ ·)).map iv := rfl
    have e2 : catV (h ++ [.lst ((fs.map (chk bs)).map iv)]) (.lst [iv (2 ^ f)]) (.lst ((((bs.filter fun b => b.testBit f).map Nat.log2).map (2 ^ ·)).map iv)) = some (((f :: (bs.filter fun b => b.testBit f).map Nat.log2).map (2 ^ ·)).map iv) := by
      show (if [iv (2 ^ f)].length + ((((bs.filter fun b => b.testBit f).map Nat.log2).map (2 ^ ·)).map iv).length ≤ line then some ([iv (2 ^ f)] ++ (((bs.filter fun b => b.testBit f).map Nat.log2).map (2 ^ ·)).map iv) else none) = _
      rw [if_pos hsz, e1]
    simp only [c, evS, evE, evA, f_disp, f_cat, f_listof, f_srt, evW, part1, part0, evC, List.getElem?_cons_zero, List.getElem?_cons_succ, putE, List.set_cons_zero, List.set_cons_succ, tgV, putEs, wipeE, walkC, walkF, bnd_ok', lift_some, bndS_nx, bndS_rt, iv_xor, iv_and, iv_add, iv_axor, iv_aadd, iv_eq, iv_ne, iv_lt, iv_gt, iv_le, tru_bl, int0, int1, int2, o_shl (show f ≤ 1000 by omega), one, e2, q]
    rfl
  have hz2 : ((fs.map (chk bs)).map iv).length < line := by
    rw [List.length_map, List.length_map]
    omega
  have a := app_at (h := h) (y := iv (chk bs f)) hz2
  have e2 : (fs.map (chk bs)).map iv ++ [iv (chk bs f)] = ((fs ++ [f]).map (chk bs)).map iv := by
    rw [List.map_append, List.map_append]
    rfl
  rw [e2] at a
  cases hc : (bs.map Nat.log2).contains f with
  | true =>
    rw [hc] at hni
    simp only [evS, evE, evA, evF, evW, part1, part0, evC, List.getElem?_cons_zero, List.getElem?_cons_succ, putE, List.set_cons_zero, List.set_cons_succ, tgV, putEs, wipeE, walkC, walkF, bnd_ok', lift_some, bndS_nx, bndS_rt, iv_xor, iv_and, iv_add, iv_axor, iv_aadd, iv_eq, iv_ne, iv_lt, iv_gt, iv_le, tru_bl, int0, int1, int2, hni, Bool.not_true, Bool.false_eq_true, if_false]
  | false =>
    rw [hc] at hni
    have s : evS GG (run GG FF (n + 1)) (.ex (.mth .append (.var 3) (.acons (.call 32 (.acons (.fz (.cat (.fz (.disp (.acons (.bin .shl (.int 1) (.var 4)) .anil))) (.fz (.comp [6, 5] (.t [6, 5]) (.zip (.var 2) (.var 1)) (.sm (.cmp .eq (.bin .and (.bin .shr (.var 5) (.var 4)) (.int 1)) (.int 1))) (.bin .shl (.int 1) (.var 6)))))) .anil)) .anil))) [L, some (.tup (bs.map iv)), some (.lst ((bs.map Nat.log2).map iv)), some (.ref h.length), some (iv f), x5, x6] (h ++ [.lst ((fs.map (chk bs)).map iv)]) = .ok (.nx [L, some (.tup (bs.map iv)), some (.lst ((bs.map Nat.log2).map iv)), some (.ref h.length), some (iv f), x5, x6]) (h ++ [.lst (((fs ++ [f]).map (chk bs)).map iv)]) := by
      show bnd (bnd (R.ok (Vl.ref h.length) (h ++ [.lst ((fs.map (chk bs)).map iv)])) fun x h' => match rcv .append h' x with
        | true => bnd (bnd (evE GG (run GG FF (n + 1)) (.call 32 (.acons (.fz (.cat (.fz (.disp (.acons (.bin .shl (.int 1) (.var 4)) .anil))) (.fz (.comp [6, 5] (.t [6, 5]) (.zip (.var 2) (.var 1)) (.sm (.cmp .eq (.bin .and (.bin .shr (.var 5) (.var 4)) (.int 1)) (.int 1))) (.bin .shl (.int 1) (.var 6)))))) .anil)) [L, some (.tup (bs.map iv)), some (.lst ((bs.map Nat.log2).map iv)), some (.ref h.length), some (iv f), x5, x6] h') fun x h => bnd (R.ok [] h) fun xs h => R.ok (x :: xs) h) fun xs h => mthV .append h x xs
        | false => .bad) _ = _
      rw [bnd_ok', rcv_at]
      dsimp only
      rw [d3, bnd_ok', bnd_ok', bnd_ok', a]
      rfl
    have cc : evE GG (run GG FF (n + 1)) (.cmp .notin (.var 4) (.var 2)) [L, some (.tup (bs.map iv)), some (.lst ((bs.map Nat.log2).map iv)), some (.ref h.length), some (iv f), x5, x6] (h ++ [.lst ((fs.map (chk bs)).map iv)]) = .ok (.bl true) (h ++ [.lst ((fs.map (chk bs)).map iv)]) := by
      simp only [evS, evE, evA, evF, evW, part1, part0, evC, List.getElem?_cons_zero, List.getElem?_cons_succ, putE, List.set_cons_zero, List.set_cons_succ, tgV, putEs, wipeE, walkC, walkF, bnd_ok', lift_some, bndS_nx, bndS_rt, iv_xor, iv_and, iv_add, iv_axor, iv_aadd, iv_eq, iv_ne, iv_lt, iv_gt, iv_le, tru_bl, int0, int1, int2, hni, Bool.not_false]
    rw [ev_ifs, cc, bnd_ok', tru_bl]
    exact s
theorem q_ldual {l : Nat} {bs : List Nat} (B : BasN l bs) (hl : l ≤ 24) (hw : Wf h) : run GG FF (n + 3) 36 [iv l, .tup (bs.map iv)] h = .ok (.tup ((dualB l bs).map iv)) h := by
  have big := line_big
  have hlen := bas_le B
  have c0 : evF GG (run GG FF (n + 2)) (.comp [5] (.n 5) (.over (.var 1)) .noe (.bin .sub (.mth .bitlen (.var 5) .anil) (.int 1))) [some (iv l), some (.tup (bs.map iv)), none, none, none, none, none] h = .ok ((bs.map Nat.log2).map iv) h := by
    have := comp_its_all (G := GG) (cf := run GG FF (n + 2)) (tg := .n 5) (own := [5]) (el := (.bin .sub (.mth .bitlen (.var 5) .anil) (.int 1))) (e := .var 1) (env := [some (iv l), some (.tup (bs.map iv)), none, none, none, none, none]) (h := h) (fun w => iv w.log2) rfl its_tup (show bs.length < 1000000 by omega) fun b hb => by
      have hbits : bits b = b.log2 + 1 := by unfold bits; rw [if_neg (bas_pos B b hb)]
      unfold turnC
      simp only [evS, evE, evA, evF, evW, part1, part0, evC, List.getElem?_cons_zero, List.getElem?_cons_succ, putE, List.set_cons_zero, List.set_cons_succ, tgV, putEs, wipeE, walkC, walkF, bnd_ok', lift_some, bndS_nx, bndS_rt, iv_xor, iv_and, iv_add, iv_axor, iv_aadd, iv_eq, iv_ne, iv_lt, iv_gt, iv_le, tru_bl, int0, int1, int2, rcv, o_bitlen, hbits, o_sub (show 1 ≤ b.log2 + 1 by omega), Nat.add_sub_cancel]
    rw [List.map_map]
    exact this
  have s1 : evS GG (run GG FF (n + 2)) (.set 2 (.fz (.comp [5] (.n 5) (.over (.var 1)) .noe (.bin .sub (.mth .bitlen (.var 5) .anil) (.int 1))))) [some (iv l), some (.tup (bs.map iv)), none, none, none, none, none] h = .ok (.nx [some (iv l), some (.tup (bs.map iv)), some (.lst ((bs.map Nat.log2).map iv)), none, none, none, none]) h := by
    simp only [c0, evS, evE, evA, f_disp, f_cat, f_listof, f_srt, evW, part1, part0, evC, List.getElem?_cons_zero, List.getElem?_cons_succ, putE, List.set_cons_zero, List.set_cons_succ, tgV, putEs, wipeE, walkC, walkF, bnd_ok', lift_some, bndS_nx, bndS_rt, iv_xor, iv_and, iv_add, iv_axor, iv_aadd, iv_eq, iv_ne, iv_lt, iv_gt, iv_le, tru_bl, int0, int1, int2]
  have s2 : evS GG (run GG FF (n + 2)) (.set 3 (.th (.disp .anil))) [some (iv l), some (.tup (bs.map iv)), some (.lst ((bs.map Nat.log2).map iv)), none, none, none, none] h = .ok (.nx [some (iv l), some (.tup (bs.map iv)), some (.lst ((bs.map Nat.log2).map iv)), some (.ref h.length), none, none, none]) (h ++ [.lst ((([] : List Nat).map (chk bs)).map iv)]) := by
    have h0 : decide (([] : List Vl).length ≤ line) = true := decide_eq_true (Nat.zero_le _)
    simp only [evS, evE, evA, evF, evW, part1, part0, evC, List.getElem?_cons_zero, List.getElem?_cons_succ, putE, List.set_cons_zero, List.set_cons_succ, tgV, putEs, wipeE, walkC, walkF, bnd_ok', lift_some, bndS_nx, bndS_rt, iv_xor, iv_and, iv_add, iv_axor, iv_aadd, iv_eq, iv_ne, iv_lt, iv_gt, iv_le, tru_bl, int0, int1, int2, h0]
    rfl
  obtain ⟨env', h', e, x4, rfl, rfl⟩ := for_pre (G := GG) (cf := run GG FF (n + 2)) (tg := .n 4) (b := (.ifs (.cmp .notin (.var 4) (.var 2)) (.ex (.mth .append (.var 3) (.acons (.call 32 (.acons (.fz (.cat (.fz (.disp (.acons (.bin .shl (.int 1) (.var 4)) .anil))) (.fz (.comp [6, 5] (.t [6, 5]) (.zip (.var 2) (.var 1)) (.sm (.cmp .eq (.bin .and (.bin .shr (.var 5) (.var 4)) (.int 1)) (.int 1))) (.bin .shl (.int 1) (.var 6)))))) .anil)) .anil))) .skip)) (g := iv) (xs := List.range l) (env := [some (iv l), some (.tup (bs.map iv)), some (.lst ((bs.map Nat.log2).map iv)), some (.ref h.length), none, none, none]) (h := h ++ [.lst ((([] : List Nat).map (chk bs)).map iv)])
    (fun pre env h' => ∃ x4 : Option Vl, env = [some (iv l), some (.tup (bs.map iv)), some (.lst ((bs.map Nat.log2).map iv)), some (.ref h.length), x4, none, none] ∧ h' = h ++ [.lst (((pre.filter fun p => !(bs.map Nat.log2).contains p).map (chk bs)).map iv)]) ⟨none, rfl, rfl⟩
    (fun pre f post ex env h' i => by
      obtain ⟨x4, rfl, rfl⟩ := i
      have hf : f < l := by
        have : f ∈ List.range l := by rw [ex]; exact List.mem_append_right _ List.mem_cons_self
        exact List.mem_range.mp this
      have hpre : (pre.filter fun p => !(bs.map Nat.log2).contains p).length ≤ 1000 := by
        have h1 := congrArg List.length ex
        have h2 := List.length_filter_le (fun p => !(bs.map Nat.log2).contains p) pre
        rw [List.length_append, List.length_range] at h1
        omega
      refine ⟨_, _, _, rfl, ld_turn (n := n + 1) B hl hf hpre, some (iv f), rfl, ?_⟩
      rw [List.filter_append]
      cases hc : (!(bs.map Nat.log2).contains f) with
      | true => simp only [if_true, List.filter_cons, hc, List.filter_nil]
      | false => simp only [Bool.false_eq_true, if_false, List.filter_cons, hc, List.filter_nil, List.append_nil])
  have s3 : evW GG (run GG FF (n + 2)) (.range (.acons (.var 0) .anil)) [some (iv l), some (.tup (bs.map iv)), some (.lst ((bs.map Nat.log2).map iv)), some (.ref h.length), none, none, none] (h ++ [.lst ((([] : List Nat).map (chk bs)).map iv)]) = .ok (.its ((List.range l).map iv)) (h ++ [.lst ((([] : List Nat).map (chk bs)).map iv)]) := range_ev (by omega) (by simp only [evS, evE, evA, evF, evW, part1, part0, evC, List.getElem?_cons_zero, List.getElem?_cons_succ, putE, List.set_cons_zero, List.set_cons_succ, tgV, putEs, wipeE, walkC, walkF, bnd_ok', lift_some, bndS_nx, bndS_rt, iv_xor, iv_and, iv_add, iv_axor, iv_aadd, iv_eq, iv_ne, iv_lt, iv_gt, iv_le, tru_bl, int0, int1, int2])
  have hc : ∀ c ∈ chks l bs, c < 2 ^ 24 := fun c hc => Nat.lt_of_lt_of_le (chks_lt B c hc) (Nat.pow_le_pow_right (by decide) hl)
  have hcl : (chks l bs).length ≤ 100000 := by
    unfold chks
    rw [List.length_map]
    have := bas_len B
    omega
  have s4 := q_lbasis (n := n) (h := h ++ [.lst ((chks l bs).map iv)]) (v := .ref h.length) (ws := chks l bs) (its_ref (get_last _ _)) hc hcl
  have e3 : evS GG (run GG FF (n + 2)) (.seq (.set 2 (.fz (.comp [5] (.n 5) (.over (.var 1)) .noe (.bin .sub (.mth .bitlen (.var 5) .anil) (.int 1))))) (.seq (.set 3 (.th (.disp .anil))) (.seq (.fors (.n 4) (.range (.acons (.var 0) .anil)) (.ifs (.cmp .notin (.var 4) (.var 2)) (.ex (.mth .append (.var 3) (.acons (.call 32 (.acons (.fz (.cat (.fz (.disp (.acons (.bin .shl (.int 1) (.var 4)) .anil))) (.fz (.comp [6, 5] (.t [6, 5]) (.zip (.var 2) (.var 1)) (.sm (.cmp .eq (.bin .and (.bin .shr (.var 5) (.var 4)) (.int 1)) (.int 1))) (.bin .shl (.int 1) (.var 6)))))) .anil)) .anil))) .skip)) (.ret (.call 34 (.acons (.var 3) .anil)))))) [some (iv l), some (.tup (bs.map iv)), none, none, none, none, none] h = .ok (.rt (.tup ((dualB l bs).map iv))) (h ++ [.lst ((chks l bs).map iv)]) := by
    rw [ev_seq, s1, bndS_nx, ev_seq, s2, bndS_nx, ev_seq, ev_fors, s3, bnd_ok']
    show bndS (forL _ _ _ _) _ = _
    rw [e, bndS_nx]
    show evS GG (run GG FF (n + 2)) (.ret (.call 34 (.acons (.var 3) .anil))) _ (h ++ [.lst ((chks l bs).map iv)]) = _
    simp only [evS, evE, evA, evF, evW, part1, part0, evC, List.getElem?_cons_zero, List.getElem?_cons_succ, putE, List.set_cons_zero, List.set_cons_succ, tgV, putEs, wipeE, walkC, walkF, bnd_ok', lift_some, bndS_nx, bndS_rt, iv_xor, iv_and, iv_add, iv_axor, iv_aadd, iv_eq, iv_ne, iv_lt, iv_gt, iv_le, tru_bl, int0, int1, int2, s4]
    rfl
  rw [run_eq (d := f36) rfl rfl]
  show endF true h.length (evS GG (run GG FF (n + 2)) (.seq (.set 2 (.fz (.comp [5] (.n 5) (.over (.var 1)) .noe (.bin .sub (.mth .bitlen (.var 5) .anil) (.int 1))))) (.seq (.set 3 (.th (.disp .anil))) (.seq (.fors (.n 4) (.range (.acons (.var 0) .anil)) (.ifs (.cmp .notin (.var 4) (.var 2)) (.ex (.mth .append (.var 3) (.acons (.call 32 (.acons (.fz (.cat (.fz (.disp (.acons (.bin .shl (.int 1) (.var 4)) .anil))) (.fz (.comp [6, 5] (.t [6, 5]) (.zip (.var 2) (.var 1)) (.sm (.cmp .eq (.bin .and (.bin .shr (.var 5) (.var 4)) (.int 1)) (.int 1))) (.bin .shl (.int 1) (.var 6)))))) .anil)) .anil))) .skip)) (.ret (.call 34 (.acons (.var 3) .anil)))))) [some (iv l), some (.tup (bs.map iv)), none, none, none, none, none] h) = _
  rw [e3]
  exact end_tup _ _ hw
end
end Law
set_option Elab.async false
set_option linter.all false
set_option maxRecDepth 100000
set_option maxHeartbeats 1000000
namespace Law
open Mi Gf
section
variable {n : Nat} {h : Hh}
theorem dr_a {p g s c t : Nat} (hp : h[p]? = some (.lst [iv g, iv s, iv c])) (ht : 0 < t) (hl : t.log2 < 9000) (hg : 0 < g) :
    ∃ r g' c', r < t ∧ run GG FF (n + 1) 29 [.ref p, iv t] h = .ok (iv r) (h.set p (.lst [iv g', iv s, iv c'])) := by
  obtain ⟨a0, a1, a2⟩ := sub_at hp
  refine ⟨g % t, g / t, c, Nat.mod_lt _ ht, ?_⟩
  rw [run_eq (d := f29) rfl rfl]
  have e : evS GG (run GG FF n) f29.body [some (.ref p), some (iv t), none, none, none] h = .ok (.rt (iv (g % t))) (h.set p (.lst [iv (g / t), iv s, iv c])) := by
    simp only [f29, evS, evE, evA, evF, evW, part1, part0, evC, List.getElem?_cons_zero, List.getElem?_cons_succ, putE, List.set_cons_zero, List.set_cons_succ, tgV, putEs, wipeE, walkC, walkF, bnd_ok', lift_some, bndS_nx, bndS_rt, iv_xor, iv_and, iv_add, iv_axor, iv_aadd, iv_eq, iv_ne, iv_lt, iv_gt, iv_le, tru_bl, int0, int1, int2, bndS, a0, decide_eq_true hg, bif_int, iv_mod ht, iv_fdiv ht hl, (set_at hp (iv (g / t))).1]
  show endF f29.frz h.length (evS GG (run GG FF n) f29.body [some (.ref p), some (iv t), none, none, none] h) = _
  rw [e]
  exact end_ret (by rw [List.length_set]; exact Nat.le_refl _)
theorem dr_c {p g s c t K0 K1 K2 K3 K4 K6 : Nat} (lit1 : Vl.int 9699713 = iv K0) (lit2 : Vl.int 2305843009213693951 = iv K1) (lit3 : Vl.int 421 = iv K2) (lit4 : Vl.int 2305843009213693921 = iv K3) (lit5 : Vl.int 5800079 = iv K4) (lit7 : Vl.int 65537 = iv K6)
    (k0s : K0 < 18446744073709551616) (k1p : 0 < K1) (k1s : K1 < 18446744073709551616) (k2s : K2 < 18446744073709551616) (k3p : 0 < K3) (k4s : K4 < 18446744073709551616) (k6p : 0 < K6) (k6l : K6.log2 < 9000)
    (hp : h[p]? = some (.lst [iv g, iv s, iv c])) (ht : 0 < t) (hl : t.log2 < 9000) (hg : ¬ 0 < g) :
    ∃ r g' c', r < t ∧ run GG FF (n + 1) 29 [.ref p, iv t] h = .ok (iv r) (h.set p (.lst [iv g', iv s, iv c'])) := by
  have hlt : p < h.length := (List.getElem?_eq_some_iff.mp hp).1
  obtain ⟨a0, a1, a2⟩ := sub_at hp
  have hp1 : (h.set p (.lst [iv g, iv s, iv (c + 1)]))[p]? = some (.lst [iv g, iv s, iv (c + 1)]) := List.getElem?_set_self hlt
  obtain ⟨b0, b1, b2⟩ := sub_at hp1
  have m1 : (s + K0 * (c + 1)) % K1 < K1 := Nat.mod_lt _ k1p
  have m2 : (s + K0 * (c + 1)) % K1 < 18446744073709551616 := Nat.lt_trans m1 k1s
  have e : ∃ r, evS GG (run GG FF n) f29.body [some (.ref p), some (iv t), none, none, none] h = .ok (.rt (iv (r % t))) (h.set p (.lst [iv g, iv s, iv (c + 1)])) := by
    refine ⟨(((s + K0 * (c + 1)) % K1 * ((s + K0 * (c + 1)) % K1) + K2 * (c + 1)) % K3 * K4 + (s + K0 * (c + 1)) % K1) / K6, ?_⟩
    simp only [f29, evS, evE, evA, evF, evW, part1, part0, evC, List.getElem?_cons_zero, List.getElem?_cons_succ, putE, List.set_cons_zero, List.set_cons_succ, tgV, putEs, wipeE, walkC, walkF, bnd_ok', lift_some, bndS_nx, bndS_rt, iv_xor, iv_and, iv_add, iv_axor, iv_aadd, iv_eq, iv_ne, iv_lt, iv_gt, iv_le, tru_bl, int0, int1, int2, a0, decide_eq_false hg, a2, (set_at hp (iv (c + 1))).2, b1, b2, lit1, lit2, lit3, lit4, lit5, lit7, bif_int, iv_mul (Or.inl k0s), iv_mod k1p, iv_mul (Or.inl m2), iv_mul (Or.inl k2s), iv_mod k3p, iv_mul (Or.inr k4s), iv_fdiv k6p k6l, iv_mod ht]
  obtain ⟨r, e⟩ := e
  refine ⟨r % t, g, c + 1, Nat.mod_lt _ ht, ?_⟩
  rw [run_eq (d := f29) rfl rfl]
  show endF f29.frz h.length (evS GG (run GG FF n) f29.body [some (.ref p), some (iv t), none, none, none] h) = _
  rw [e]
  exact end_ret (by rw [List.length_set]; exact Nat.le_refl _)
theorem q_draw {p t : Nat} (hp : Pail h p) (ht : 0 < t) (hl : t.log2 < 9000) : ∃ r h', r < t ∧ run GG FF (n + 1) 29 [.ref p, iv t] h = .ok (iv r) h' ∧ Drew h h' p := by
  obtain ⟨g, s, c, e⟩ := hp
  have hlt := (List.getElem?_eq_some_iff.mp e).1
  have fin : (∃ r g' c' : Nat, r < t ∧ run GG FF (n + 1) 29 [.ref p, iv t] h = .ok (iv r) (h.set p (.lst [iv g', iv s, iv c']))) → ∃ r h', r < t ∧ run GG FF (n + 1) 29 [.ref p, iv t] h = .ok (iv r) h' ∧ Drew h h' p := fun ⟨r, g', c', h1, h2⟩ =>
    ⟨r, _, h1, h2, ⟨g', s, c', List.getElem?_set_self hlt⟩, _, rfl⟩
  by_cases hg : 0 < g
  · exact fin (dr_a e ht hl hg)
  · exact fin (dr_c (K0 := 9699713) (K1 := 2305843009213693951) (K2 := 421) (K3 := 2305843009213693921) (K4 := 5800079) (K6 := 65537) rfl rfl rfl rfl rfl rfl (by decide) (by decide) (by decide) (by decide) (by decide) (by decide) (by decide) (by decide) e ht hl hg)
theorem log_small {t : Nat} (h : t ≤ 100000000) : t.log2 < 9000 := by
  by_cases hz : t = 0
  · subst hz; decide
  · exact (Nat.log2_lt hz).mpr (Nat.lt_of_le_of_lt h (Nat.lt_of_lt_of_le (show 100000000 < 2 ^ 27 by decide) (Nat.pow_le_pow_right (by decide) (by decide))))
theorem q_pick {p : Nat} (hp : Pail h p) (ws : List Nat) (hw : ws ≠ []) (hl : ws.length ≤ 1000) : ∃ w h', w ∈ ws ∧ run GG FF (n + 2) 30 [.ref p, .lst (ws.map iv)] h = .ok (iv w) h' ∧ Drew h h' p := by
  have hpos : 0 < ws.length := List.length_pos_iff.mpr hw
  obtain ⟨r, h', h1, h2, h3⟩ := q_draw (n := n) hp hpos (log_small (by omega))
  refine ⟨ws[r], h', List.getElem_mem h1, ?_, h3⟩
  have e2 : subV h' (.lst (ws.map iv)) (iv r) = some (iv ws[r]) := sub_words ws r h1
  have e : evS GG (run GG FF (n + 1)) f30.body [some (.ref p), some (.lst (ws.map iv))] h = .ok (.rt (iv ws[r])) h' := by
    simp only [f30, evS, evE, evA, evF, evW, part1, part0, evC, List.getElem?_cons_zero, List.getElem?_cons_succ, putE, List.set_cons_zero, List.set_cons_succ, tgV, putEs, wipeE, walkC, walkF, bnd_ok', lift_some, bndS_nx, bndS_rt, iv_xor, iv_and, iv_add, iv_axor, iv_aadd, iv_eq, iv_ne, iv_lt, iv_gt, iv_le, tru_bl, int0, int1, int2, its_lst.len, h2, e2]
  exact run_rt2 (d := f30) rfl rfl e (by rw [h3.len]; exact Nat.le_refl _)
theorem q_words {p l m : Nat} (hp : Pail h p) (hl : l ≤ 24) (hm : m ≤ 24) : ∃ (ws : List Nat) (h' : Hh), ws.length ≤ m ∧ (∀ w ∈ ws, w < 2 ^ l) ∧ run GG FF (n + 2) 37 [.ref p, iv l, iv m] h = .ok (.tup (ws.map iv)) h' ∧ Drew h h' p := by
  have big := line_big
  obtain ⟨k, h1, hk, e1, d1⟩ := q_draw (n := n) (t := m + 1) hp (by omega) (log_small (by omega))
  have hpow : 2 ^ l ≤ 100000000 := Nat.le_trans (Nat.pow_le_pow_right (by decide) hl) (by decide)
  have ew : evW GG (run GG FF (n + 1)) (.range (.acons (.call 29 (.acons (.var 0) (.acons (.bin .add (.var 2) (.int 1)) .anil))) .anil)) [some (.ref p), some (iv l), some (iv m), none] h = .ok (.its ((List.range k).map iv)) h1 := by
    have e0 : evA GG (run GG FF (n + 1)) (.acons (.call 29 (.acons (.var 0) (.acons (.bin .add (.var 2) (.int 1)) .anil))) .anil) [some (.ref p), some (iv l), some (iv m), none] h = .ok [iv k] h1 := by
      simp only [evS, evE, evA, evF, evW, part1, part0, evC, List.getElem?_cons_zero, List.getElem?_cons_succ, putE, List.set_cons_zero, List.set_cons_succ, tgV, putEs, wipeE, walkC, walkF, bnd_ok', lift_some, bndS_nx, bndS_rt, iv_xor, iv_and, iv_add, iv_axor, iv_aadd, iv_eq, iv_ne, iv_lt, iv_gt, iv_le, tru_bl, int0, int1, int2, e1]
    have e2 : rangeL ((k : Int)).toNat 0 1 = (List.range k).map iv := by rw [Int.toNat_natCast, range_iv0]
    have hd : decide (((k : Nat) : Int).natAbs < 1000000000) = true := decide_eq_true (by omega)
    show bnd (evA GG (run GG FF (n + 1)) (.acons (.call 29 (.acons (.var 0) (.acons (.bin .add (.var 2) (.int 1)) .anil))) .anil) _ _) _ = _
    rw [e0, bnd_ok']
    show (match decide (((k : Nat) : Int).natAbs < 1000000000) with
      | true => R.ok (Wk.its (rangeL ((k : Int)).toNat 0 1)) h1
      | false => .bad) = _
    rw [hd, e2]
  obtain ⟨ys, h2, e3, ws, rfl, hlen, hlt, d2⟩ := compL_pre (turn := turnC GG (run GG FF (n + 1)) (.n 3) [3] .noe (.call 29 (.acons (.var 0) (.acons (.bin .shl (.int 1) (.var 1)) .anil))) [some (.ref p), some (iv l), some (iv m), none]) (g := iv) (xs := List.range k) (pre := []) (post := List.range k) (acc := []) (h := h1)
    (fun pre acc h' => ∃ ws : List Nat, acc = ws.map iv ∧ ws.length = pre.length ∧ (∀ w ∈ ws, w < 2 ^ l) ∧ Drew h h' p) rfl (Nat.le_refl _) (by rw [List.length_range]; omega) ⟨[], rfl, rfl, fun _ q => (nomatch q), d1⟩
    (fun pre x post ex acc h' i => by
      obtain ⟨ws, rfl, hlen, hlt, d⟩ := i
      obtain ⟨w, h2, hw, e2, d2⟩ := q_draw (n := n) (h := h') (t := 2 ^ l) d.1 (Nat.two_pow_pos l) (log_small hpow)
      refine ⟨some (iv w), h2, ?_, ws ++ [w], ?_, ?_, ?_, d.trans d2⟩
      · unfold turnC
        simp only [evS, evE, evA, evF, evW, part1, part0, evC, List.getElem?_cons_zero, List.getElem?_cons_succ, putE, List.set_cons_zero, List.set_cons_succ, tgV, putEs, wipeE, walkC, walkF, bnd_ok', lift_some, bndS_nx, bndS_rt, iv_xor, iv_and, iv_add, iv_axor, iv_aadd, iv_eq, iv_ne, iv_lt, iv_gt, iv_le, tru_bl, int0, int1, int2, o_shl (show l ≤ 1000 by omega), e2]
      · rw [List.map_append]; rfl
      · rw [List.length_append, List.length_append, hlen]; rfl
      · intro x hx
        rcases List.mem_append.mp hx with z | z
        · exact hlt x z
        · rw [List.mem_singleton.mp z]; exact hw)
  refine ⟨ws, h2, by rw [hlen, List.length_range]; omega, hlt, ?_, d2⟩
  have c : evF GG (run GG FF (n + 1)) (.comp [3] (.n 3) (.range (.acons (.call 29 (.acons (.var 0) (.acons (.bin .add (.var 2) (.int 1)) .anil))) .anil)) .noe (.call 29 (.acons (.var 0) (.acons (.bin .shl (.int 1) (.var 1)) .anil)))) [some (.ref p), some (iv l), some (iv m), none] h = .ok (ws.map iv) h2 := by
    rw [ev_comp, ew, bnd_ok']
    exact e3
  have lt : ∀ l : List Vl, bifV .tuple h2 [.lst l] = some (.tup l) := fun l => rfl
  have e : evS GG (run GG FF (n + 1)) (.ret (.bif .tuple (.acons (.fz (.comp [3] (.n 3) (.range (.acons (.call 29 (.acons (.var 0) (.acons (.bin .add (.var 2) (.int 1)) .anil))) .anil)) .noe (.call 29 (.acons (.var 0) (.acons (.bin .shl (.int 1) (.var 1)) .anil))))) .anil))) [some (.ref p), some (iv l), some (iv m), none] h = .ok (.rt (.tup (ws.map iv))) h2 := by
    simp only [c, evS, evE, evA, f_disp, f_cat, f_listof, f_srt, evW, part1, part0, evC, List.getElem?_cons_zero, List.getElem?_cons_succ, putE, List.set_cons_zero, List.set_cons_succ, tgV, putEs, wipeE, walkC, walkF, bnd_ok', lift_some, bndS_nx, bndS_rt, iv_xor, iv_and, iv_add, iv_axor, iv_aadd, iv_eq, iv_ne, iv_lt, iv_gt, iv_le, tru_bl, int0, int1, int2, lt]
  exact run_rt2 (d := f37) rfl rfl e (by rw [d2.len]; exact Nat.le_refl _)
theorem range_lot {l : Nat} {ps : List Nat} (s : ps.Sublist (List.range l)) : Lot l ps :=
  ⟨List.pairwise_lt_range.sublist s, fun p hp => List.mem_range.mp (s.subset hp)⟩
theorem ne_nil (ps : List Nat) : cmpV .ne h (.lst (ps.map iv)) (.lst []) = some (decide (ps ≠ [])) := by
  have e1 : ∀ (k : Nat) (ws : List Nat), plL (ws.map iv) k = true := by
    intro k ws
    induction ws with
    | nil => simp [plL]
    | cons w ws ih =>
      rw [List.map_cons]
      unfold plL
      rw [show pl (iv w) k = true from by unfold iv; cases k <;> simp [pl]]
      exact ih
  have e2 : pl (.lst (ps.map iv)) 20 = true := e1 19 ps
  show (match (match pl (.lst (ps.map iv)) 20 with
    | true => match pl (.lst []) 20 with
      | true => some (eqV (.lst (ps.map iv)) (.lst []))
      | false => none
    | false => none) with
    | some b => some (!b)
    | none => none) = _
  rw [e2]
  cases ps with
  | nil => simp [pl, plL, eqV, eqL]
  | cons p r => simp [pl, plL, eqV, eqL]
theorem q_lot {p l : Nat} (hp : Pail h p) (h1 : 1 ≤ l) (hl : l ≤ 24) : ∃ (ps : List Nat) (h' : Hh), Lot l ps ∧ ps ≠ [] ∧ run GG FF (n + 2) 40 [.ref p, iv l] h = .ok (.tup (ps.map iv)) h' ∧ Drew h h' p := by
  have big := line_big
  obtain ⟨ys, h2, e3, ps, rfl, hs, d2⟩ := compL_pre (turn := turnC GG (run GG FF (n + 1)) (.n 3) [3] (.sm (.cmp .eq (.call 29 (.acons (.var 0) (.acons (.int 2) .anil))) (.int 0))) (.var 3) [some (.ref p), some (iv l), none, none]) (g := iv) (xs := List.range l) (pre := []) (post := List.range l) (acc := []) (h := h)
    (fun pre acc h' => ∃ ps : List Nat, acc = ps.map iv ∧ ps.Sublist pre ∧ Drew h h' p) rfl (Nat.le_refl _) (by rw [List.length_range]; omega) ⟨[], rfl, List.Sublist.refl _, Drew.refl hp⟩
    (fun pre x post ex acc h' i => by
      obtain ⟨ps, rfl, hs, d⟩ := i
      obtain ⟨w, h2, hw, e2, d2⟩ := q_draw (n := n) (h := h') (t := 2) d.1 (by decide) (log_small (by decide))
      by_cases hz : w = 0
      · subst hz
        refine ⟨some (iv x), h2, ?_, ps ++ [x], ?_, hs.append (List.Sublist.refl _), d.trans d2⟩
        · unfold turnC
          simp only [evS, evE, evA, evF, evW, part1, part0, evC, List.getElem?_cons_zero, List.getElem?_cons_succ, putE, List.set_cons_zero, List.set_cons_succ, tgV, putEs, wipeE, walkC, walkF, bnd_ok', lift_some, bndS_nx, bndS_rt, iv_xor, iv_and, iv_add, iv_axor, iv_aadd, iv_eq, iv_ne, iv_lt, iv_gt, iv_le, tru_bl, int0, int1, int2, e2, decide_true]
        · rw [List.map_append]; rfl
      · refine ⟨none, h2, ?_, ps, ?_, hs.trans (List.sublist_append_left _ _), d.trans d2⟩
        · unfold turnC
          simp only [evS, evE, evA, evF, evW, part1, part0, evC, List.getElem?_cons_zero, List.getElem?_cons_succ, putE, List.set_cons_zero, List.set_cons_succ, tgV, putEs, wipeE, walkC, walkF, bnd_ok', lift_some, bndS_nx, bndS_rt, iv_xor, iv_and, iv_add, iv_axor, iv_aadd, iv_eq, iv_ne, iv_lt, iv_gt, iv_le, tru_bl, int0, int1, int2, e2, decide_eq_false hz]
        · rw [Option.toList_none, List.append_nil])
  have ew : evW GG (run GG FF (n + 1)) (.range (.acons (.var 1) .anil)) [some (.ref p), some (iv l), none, none] h = .ok (.its ((List.range l).map iv)) h := range_ev (by omega) (by simp only [evS, evE, evA, evF, evW, part1, part0, evC, List.getElem?_cons_zero, List.getElem?_cons_succ, putE, List.set_cons_zero, List.set_cons_succ, tgV, putEs, wipeE, walkC, walkF, bnd_ok', lift_some, bndS_nx, bndS_rt, iv_xor, iv_and, iv_add, iv_axor, iv_aadd, iv_eq, iv_ne, iv_lt, iv_gt, iv_le, tru_bl, int0, int1, int2])
  have c : evF GG (run GG FF (n + 1)) (.comp [3] (.n 3) (.range (.acons (.var 1) .anil)) (.sm (.cmp .eq (.call 29 (.acons (.var 0) (.acons (.int 2) .anil))) (.int 0))) (.var 3)) [some (.ref p), some (iv l), none, none] h = .ok (ps.map iv) h2 := by
    rw [ev_comp, ew, bnd_ok']
    exact e3
  have lt : ∀ l : List Vl, bifV .tuple h2 [.lst l] = some (.tup l) := fun l => rfl
  have h0 : decide (([] : List Vl).length ≤ line) = true := decide_eq_true (Nat.zero_le _)
  have one : ∀ x : Vl, decide ([x].length ≤ line) = true := fun x => decide_eq_true (by show 1 ≤ line; decide)
  by_cases hz : ps = []
  · subst hz
    obtain ⟨k, h3, hk, e4, d4⟩ := q_draw (n := n) (h := h2) (t := l) d2.1 (by omega) (log_small (by omega))
    refine ⟨[k], h3, ⟨List.pairwise_singleton _ _, fun q hq => by rw [List.mem_singleton.mp hq]; exact hk⟩, by simp, ?_, d2.trans d4⟩
    have nn := ne_nil (h := h2) []
    have e : evS GG (run GG FF (n + 1)) (.seq (.set 2 (.fz (.comp [3] (.n 3) (.range (.acons (.var 1) .anil)) (.sm (.cmp .eq (.call 29 (.acons (.var 0) (.acons (.int 2) .anil))) (.int 0))) (.var 3)))) (.ret (.ite (.cmp .ne (.var 2) (.fz (.disp .anil))) (.bif .tuple (.acons (.var 2) .anil)) (.tup (.acons (.call 29 (.acons (.var 0) (.acons (.var 1) .anil))) .anil))))) [some (.ref p), some (iv l), none, none] h = .ok (.rt (.tup ([k].map iv))) h3 := by
      rw [decide_eq_false (show ¬ (([] : List Nat) ≠ []) from fun z => z rfl)] at nn
      simp only [c, evS, evE, evA, f_disp, f_cat, f_listof, f_srt, evW, part1, part0, evC, List.getElem?_cons_zero, List.getElem?_cons_succ, putE, List.set_cons_zero, List.set_cons_succ, tgV, putEs, wipeE, walkC, walkF, bnd_ok', lift_some, bndS_nx, bndS_rt, iv_xor, iv_and, iv_add, iv_axor, iv_aadd, iv_eq, iv_ne, iv_lt, iv_gt, iv_le, tru_bl, int0, int1, int2, h0, nn, e4, one]
      rfl
    exact run_rt2 (d := f40) rfl rfl e (by rw [d4.len, d2.len]; exact Nat.le_refl _)
  · refine ⟨ps, h2, range_lot hs, hz, ?_, d2⟩
    have nn := ne_nil (h := h2) ps
    have e : evS GG (run GG FF (n + 1)) (.seq (.set 2 (.fz (.comp [3] (.n 3) (.range (.acons (.var 1) .anil)) (.sm (.cmp .eq (.call 29 (.acons (.var 0) (.acons (.int 2) .anil))) (.int 0))) (.var 3)))) (.ret (.ite (.cmp .ne (.var 2) (.fz (.disp .anil))) (.bif .tuple (.acons (.var 2) .anil)) (.tup (.acons (.call 29 (.acons (.var 0) (.acons (.var 1) .anil))) .anil))))) [some (.ref p), some (iv l), none, none] h = .ok (.rt (.tup (ps.map iv))) h2 := by
      rw [decide_eq_true hz] at nn
      simp only [c, evS, evE, evA, f_disp, f_cat, f_listof, f_srt, evW, part1, part0, evC, List.getElem?_cons_zero, List.getElem?_cons_succ, putE, List.set_cons_zero, List.set_cons_succ, tgV, putEs, wipeE, walkC, walkF, bnd_ok', lift_some, bndS_nx, bndS_rt, iv_xor, iv_and, iv_add, iv_axor, iv_aadd, iv_eq, iv_ne, iv_lt, iv_gt, iv_le, tru_bl, int0, int1, int2, h0, nn, lt]
    exact run_rt2 (d := f40) rfl rfl e (by rw [d2.len]; exact Nat.le_refl _)
theorem vat_a {A1 A2 A3 A4 A5 A6 A7 A8 A9 B1 B2 : Nat} (l1 : Vl.int 521 = iv A1) (l2 : Vl.int 271 = iv A2) (l3 : Vl.int 10 = iv A3) (l4 : Vl.int 57 = iv A4) (l5 : Vl.int 6 = iv A5) (l6 : Vl.int 2147483477 = iv A6) (l7 : Vl.int 349 = iv A7) (l8 : Vl.int 587 = iv A8) (l9 : Vl.int 37 = iv A9) (m1 : Vl.int 9 = iv B1) (m2 : Vl.int 16 = iv B2)
    (q1 : A1 < 18446744073709551616) (q3 : 0 < A3) (q4 : (A3.log2 + 1) * A4 < 100000) (q5 : ((A3 ^ A4).log2 + 1) * A5 < 100000) (q6 : 0 < A6) (q7 : A7 < 18446744073709551616) (q8 : A8 < 18446744073709551616) (q9 : A9 < 18446744073709551616) (p2 : (A3.log2 + 1) * B2 < 100000)
    {ns : List Int} (s : Nat) : ∃ g t, run GG FF (n + 1) 28 [.scr (ns.map .int), iv s] h = .ok (.ref h.length) (h ++ [.lst [iv g, iv t, iv 0]]) := by
  have q2 : 0 < (A3 ^ A4) ^ A5 := Nat.pow_pos (Nat.pow_pos q3)
  have s1 : ∃ c : Int, evS GG (run GG FF n) (.set 2 (.ite (.cmp .lt (.var 1) (.bif .len (.acons (.var 0) .anil))) (.bif .int (.acons (.sub (.var 0) (.var 1)) .anil)) (.bin .add (.bin .mul (.int 521) (.var 1)) (.int 271)))) [some (.scr (ns.map .int)), some (iv s), none, none] h = .ok (.nx [some (.scr (ns.map .int)), some (iv s), some (.int c), none]) h := by
    by_cases hs : s < ns.length
    · refine ⟨ns[s], ?_⟩
      have e3 : bifV .int h [.int ns[s]] = some (.int ns[s]) := rfl
      simp only [evS, evE, evA, evF, evW, part1, part0, evC, List.getElem?_cons_zero, List.getElem?_cons_succ, putE, List.set_cons_zero, List.set_cons_succ, tgV, putEs, wipeE, walkC, walkF, bnd_ok', lift_some, bndS_nx, bndS_rt, iv_xor, iv_and, iv_add, iv_axor, iv_aadd, iv_eq, iv_ne, iv_lt, iv_gt, iv_le, tru_bl, int0, int1, int2, scr_len, decide_eq_true hs, scr_sub hs, e3]
    · refine ⟨((A1 * s + A2 : Nat) : Int), ?_⟩
      simp only [evS, evE, evA, evF, evW, part1, part0, evC, List.getElem?_cons_zero, List.getElem?_cons_succ, putE, List.set_cons_zero, List.set_cons_succ, tgV, putEs, wipeE, walkC, walkF, bnd_ok', lift_some, bndS_nx, bndS_rt, iv_xor, iv_and, iv_add, iv_axor, iv_aadd, iv_eq, iv_ne, iv_lt, iv_gt, iv_le, tru_bl, int0, int1, int2, scr_len, decide_eq_false hs, l1, l2, iv_mul (Or.inl q1)]
      rfl
  obtain ⟨c, s1⟩ := s1
  have s2 : ∃ g : Nat, evS GG (run GG FF n) (.set 3 (.bin .mod (.bif .int (.acons (.bif .abs (.acons (.var 2) .anil)) .anil)) (.bin .pow (.bin .pow (.int 10) (.int 57)) (.int 6)))) [some (.scr (ns.map .int)), some (iv s), some (.int c), none] h = .ok (.nx [some (.scr (ns.map .int)), some (iv s), some (.int c), some (iv g)]) h := by
    refine ⟨c.natAbs % (A3 ^ A4) ^ A5, ?_⟩
    simp only [evS, evE, evA, evF, evW, part1, part0, evC, List.getElem?_cons_zero, List.getElem?_cons_succ, putE, List.set_cons_zero, List.set_cons_succ, tgV, putEs, wipeE, walkC, walkF, bnd_ok', lift_some, bndS_nx, bndS_rt, iv_xor, iv_and, iv_add, iv_axor, iv_aadd, iv_eq, iv_ne, iv_lt, iv_gt, iv_le, tru_bl, int0, int1, int2, abs_iv, bif_int, l3, l4, l5, iv_pow q4, iv_pow q5, iv_mod q2]
  obtain ⟨g, s2⟩ := s2
  obtain ⟨k, hk⟩ := cut_iv (h := h) g (A3 ^ B2)
  obtain ⟨j, hj⟩ := int_bl (h := h) (decide (c < 0))
  have hc : cmpV .lt h (.int c) (iv 0) = some (decide (c < 0)) := rfl
  refine ⟨k, g % A6 * A7 + A8 * s + A9 * j + B1, ?_⟩
  have e : evS GG (run GG FF n) (.seq (.set 2 (.ite (.cmp .lt (.var 1) (.bif .len (.acons (.var 0) .anil))) (.bif .int (.acons (.sub (.var 0) (.var 1)) .anil)) (.bin .add (.bin .mul (.int 521) (.var 1)) (.int 271)))) (.seq (.set 3 (.bin .mod (.bif .int (.acons (.bif .abs (.acons (.var 2) .anil)) .anil)) (.bin .pow (.bin .pow (.int 10) (.int 57)) (.int 6)))) (.ret (.th (.disp (.acons (.bif .max2 (.acons (.int 0) (.acons (.bin .sub (.var 3) (.bin .pow (.int 10) (.int 16))) .anil))) (.acons (.bin .add (.bin .add (.bin .add (.bin .mul (.bin .mod (.bif .int (.acons (.var 3) .anil)) (.int 2147483477)) (.int 349)) (.bin .mul (.int 587) (.var 1))) (.bin .mul (.int 37) (.bif .int (.acons (.cmp .lt (.var 2) (.int 0)) .anil)))) (.int 9)) (.acons (.int 0) .anil)))))))) [some (.scr (ns.map .int)), some (iv s), none, none] h = .ok (.rt (.ref h.length)) (h ++ [.lst [iv k, iv (g % A6 * A7 + A8 * s + A9 * j + B1), iv 0]]) := by
    have h0 : decide ([iv k, iv (g % A6 * A7 + A8 * s + A9 * j + B1), iv 0].length ≤ line) = true := decide_eq_true (by show 3 ≤ line; decide)
    cases hb : binV .sub h (iv g) (iv (A3 ^ B2)) with
    | none =>
      rw [hb] at hk
      cases hk
    | some x =>
      rw [hb] at hk
      rw [ev_seq, s1, bndS_nx, ev_seq, s2, bndS_nx]
      simp only [evS, evE, evA, evF, evW, part1, part0, evC, List.getElem?_cons_zero, List.getElem?_cons_succ, putE, List.set_cons_zero, List.set_cons_succ, tgV, putEs, wipeE, walkC, walkF, bnd_ok', lift_some, bndS_nx, bndS_rt, iv_xor, iv_and, iv_add, iv_axor, iv_aadd, iv_eq, iv_ne, iv_lt, iv_gt, iv_le, tru_bl, int0, int1, int2, l3, m2, m1, l6, l7, l8, l9, bif_int, iv_pow p2, hb, hk, iv_mod q6, iv_mul (Or.inr q7), iv_mul (Or.inl q8), hc, hj, iv_mul (Or.inl q9), h0]
  rw [run_eq (d := f28) rfl rfl]
  show endF f28.frz h.length (evS GG (run GG FF n) (.seq (.set 2 (.ite (.cmp .lt (.var 1) (.bif .len (.acons (.var 0) .anil))) (.bif .int (.acons (.sub (.var 0) (.var 1)) .anil)) (.bin .add (.bin .mul (.int 521) (.var 1)) (.int 271)))) (.seq (.set 3 (.bin .mod (.bif .int (.acons (.bif .abs (.acons (.var 2) .anil)) .anil)) (.bin .pow (.bin .pow (.int 10) (.int 57)) (.int 6)))) (.ret (.th (.disp (.acons (.bif .max2 (.acons (.int 0) (.acons (.bin .sub (.var 3) (.bin .pow (.int 10) (.int 16))) .anil))) (.acons (.bin .add (.bin .add (.bin .add (.bin .mul (.bin .mod (.bif .int (.acons (.var 3) .anil)) (.int 2147483477)) (.int 349)) (.bin .mul (.int 587) (.var 1))) (.bin .mul (.int 37) (.bif .int (.acons (.cmp .lt (.var 2) (.int 0)) .anil)))) (.int 9)) (.acons (.int 0) .anil)))))))) [some (.scr (ns.map .int)), some (iv s), none, none] h) = _
  rw [e]
  rfl
theorem q_vat (ns : List Int) (s : Nat) : ∃ h', run GG FF (n + 1) 28 [.scr (ns.map .int), iv s] h = .ok (.ref h.length) h' ∧ Pail h' h.length ∧ ∃ ws : List Nat, h' = h ++ [.lst (ws.map iv)] := by
  obtain ⟨g, t, e⟩ := vat_a (n := n) (h := h) (A1 := 521) (A2 := 271) (A3 := 10) (A4 := 57) (A5 := 6) (A6 := 2147483477) (A7 := 349) (A8 := 587) (A9 := 37) (B1 := 9) (B2 := 16) rfl rfl rfl rfl rfl rfl rfl rfl rfl rfl rfl (by decide) (by decide) (by decide +kernel) (by decide +kernel) (by decide) (by decide) (by decide) (by decide) (by decide +kernel) (ns := ns) s
  exact ⟨_, e, pail_at g t 0, [g, t, 0], rfl⟩
end
end Law
set_option Elab.async false
set_option linter.all false
set_option maxRecDepth 100000
set_option maxHeartbeats 1000000
namespace Law
open Mi Gf
section
variable {n : Nat} {h : Hh}
theorem sub_0 {ws : List Nat} (hw : 0 < ws.length) : subV h (.lst (ws.map iv)) (iv 0) = some (iv ws[0]) := sub_words ws 0 hw
theorem cutw_tail (ps : List Nat) : cutW h (.lst (ps.map iv)) (some 1) none = some (.lst (ps.tail.map iv)) := by
  show some (Vl.lst (cut (ps.map iv) (some 1) none)) = _
  rw [cut_tail]
theorem q_beside {l : Nat} {bs : List Nat} {w : Nat} (hb : ∀ b ∈ bs, b < 2 ^ l) (hz : bs.length ≤ 100) (hl : l ≤ 24) (hw : w < 2 ^ l) : ∃ vs : List Nat, (∀ v ∈ vs, v < 2 ^ l) ∧ run GG FF (n + 3) 38 [.tup (bs.map iv), iv w] h = .ok (.tup ((basis vs).map iv)) h := by
  have big := line_big
  have h24 : 2 ^ l ≤ 2 ^ 24 := Nat.pow_le_pow_right (by decide) hl
  have hwt : ∀ b ∈ bs, b &&& w < 2 ^ 24 := fun b h1 => Nat.lt_of_lt_of_le (Nat.lt_of_le_of_lt Nat.and_le_left (hb b h1)) h24
  have c1 : evF GG (run GG FF (n + 2)) (.comp [4] (.n 4) (.over (.var 0)) (.sm (.cmp .eq (.bin .mod (.call 31 (.acons (.bin .and (.var 4) (.var 1)) .anil)) (.int 2)) (.int 1))) (.var 4)) [some (.tup (bs.map iv)), some (iv w), none, none, none] h = .ok ((bs.filter fun b => decide (ones 24 (b &&& w) % 2 = 1)).map iv) h :=
    comp_its (fun b => decide (ones 24 (b &&& w) % 2 = 1)) iv rfl its_tup (show bs.length < 1000000 by omega) fun b h1 => by
      unfold turnC
      simp only [evS, evE, evA, evF, evW, part1, part0, evC, List.getElem?_cons_zero, List.getElem?_cons_succ, putE, List.set_cons_zero, List.set_cons_succ, tgV, putEs, wipeE, walkC, walkF, bnd_ok', lift_some, bndS_nx, bndS_rt, iv_xor, iv_and, iv_add, iv_axor, iv_aadd, iv_eq, iv_ne, iv_lt, iv_gt, iv_le, tru_bl, int0, int1, int2, q_bits (n := n + 1) (hwt b h1), o_mod (show 0 < 2 by decide)]
      cases decide (ones 24 (b &&& w) % 2 = 1) with
      | true => simp only [evS, evE, evA, evF, evW, part1, part0, evC, List.getElem?_cons_zero, List.getElem?_cons_succ, putE, List.set_cons_zero, List.set_cons_succ, tgV, putEs, wipeE, walkC, walkF, bnd_ok', lift_some, bndS_nx, bndS_rt, iv_xor, iv_and, iv_add, iv_axor, iv_aadd, iv_eq, iv_ne, iv_lt, iv_gt, iv_le, tru_bl, int0, int1, int2, if_true]
      | false => simp only [evS, evE, evA, evF, evW, part1, part0, evC, List.getElem?_cons_zero, List.getElem?_cons_succ, putE, List.set_cons_zero, List.set_cons_succ, tgV, putEs, wipeE, walkC, walkF, bnd_ok', lift_some, bndS_nx, bndS_rt, iv_xor, iv_and, iv_add, iv_axor, iv_aadd, iv_eq, iv_ne, iv_lt, iv_gt, iv_le, tru_bl, int0, int1, int2, Bool.false_eq_true, if_false]
  generalize ho : (bs.filter fun b => decide (ones 24 (b &&& w) % 2 = 1)) = od at c1
  have hod : ∀ b ∈ od, b < 2 ^ l := fun b h1 => hb b (by rw [← ho] at h1; exact (List.mem_filter.mp h1).1)
  have hol : od.length ≤ 100 := by
    rw [← ho]
    have := List.length_filter_le (fun b => decide (ones 24 (b &&& w) % 2 = 1)) bs
    omega
  have c2 : evF GG (run GG FF (n + 2)) (.comp [4] (.n 4) (.over (.var 0)) (.sm (.cmp .eq (.bin .mod (.call 31 (.acons (.bin .and (.var 4) (.var 1)) .anil)) (.int 2)) (.int 0))) (.var 4)) [some (.tup (bs.map iv)), some (iv w), some (.lst (od.map iv)), none, none] h = .ok ((bs.filter fun b => decide (ones 24 (b &&& w) % 2 = 0)).map iv) h :=
    comp_its (fun b => decide (ones 24 (b &&& w) % 2 = 0)) iv rfl its_tup (show bs.length < 1000000 by omega) fun b h1 => by
      unfold turnC
      simp only [evS, evE, evA, evF, evW, part1, part0, evC, List.getElem?_cons_zero, List.getElem?_cons_succ, putE, List.set_cons_zero, List.set_cons_succ, tgV, putEs, wipeE, walkC, walkF, bnd_ok', lift_some, bndS_nx, bndS_rt, iv_xor, iv_and, iv_add, iv_axor, iv_aadd, iv_eq, iv_ne, iv_lt, iv_gt, iv_le, tru_bl, int0, int1, int2, q_bits (n := n + 1) (hwt b h1), o_mod (show 0 < 2 by decide)]
      cases decide (ones 24 (b &&& w) % 2 = 0) with
      | true => simp only [evS, evE, evA, evF, evW, part1, part0, evC, List.getElem?_cons_zero, List.getElem?_cons_succ, putE, List.set_cons_zero, List.set_cons_succ, tgV, putEs, wipeE, walkC, walkF, bnd_ok', lift_some, bndS_nx, bndS_rt, iv_xor, iv_and, iv_add, iv_axor, iv_aadd, iv_eq, iv_ne, iv_lt, iv_gt, iv_le, tru_bl, int0, int1, int2, if_true]
      | false => simp only [evS, evE, evA, evF, evW, part1, part0, evC, List.getElem?_cons_zero, List.getElem?_cons_succ, putE, List.set_cons_zero, List.set_cons_succ, tgV, putEs, wipeE, walkC, walkF, bnd_ok', lift_some, bndS_nx, bndS_rt, iv_xor, iv_and, iv_add, iv_axor, iv_aadd, iv_eq, iv_ne, iv_lt, iv_gt, iv_le, tru_bl, int0, int1, int2, Bool.false_eq_true, if_false]
  generalize he : (bs.filter fun b => decide (ones 24 (b &&& w) % 2 = 0)) = ev at c2
  have hev : ∀ b ∈ ev, b < 2 ^ l := fun b h1 => hb b (by rw [← he] at h1; exact (List.mem_filter.mp h1).1)
  have hel : ev.length ≤ 100 := by
    rw [← he]
    have := List.length_filter_le (fun b => decide (ones 24 (b &&& w) % 2 = 0)) bs
    omega
  obtain ⟨o0, ho0, c3⟩ : ∃ o0, o0 < 2 ^ l ∧ evF GG (run GG FF (n + 2)) (.comp [4] (.n 4) (.over (.slc (.var 2) (.sm (.int 1)) .noe)) .noe (.bin .xor (.var 4) (.sub (.var 2) (.int 0)))) [some (.tup (bs.map iv)), some (iv w), some (.lst (od.map iv)), some (.lst (ev.map iv)), none] h = .ok ((od.tail.map (· ^^^ o0)).map iv) h := by
    have es : evE GG (run GG FF (n + 2)) (.slc (.var 2) (.sm (.int 1)) .noe) [some (.tup (bs.map iv)), some (iv w), some (.lst (od.map iv)), some (.lst (ev.map iv)), none] h = .ok (.lst (od.tail.map iv)) h := by
      simp only [evS, evE, evA, evF, evW, part1, part0, evC, List.getElem?_cons_zero, List.getElem?_cons_succ, putE, List.set_cons_zero, List.set_cons_succ, tgV, putEs, wipeE, walkC, walkF, bnd_ok', lift_some, bndS_nx, bndS_rt, iv_xor, iv_and, iv_add, iv_axor, iv_aadd, iv_eq, iv_ne, iv_lt, iv_gt, iv_le, tru_bl, int0, int1, int2, cutw_tail]
    have key : ∀ o0 : Nat, (∀ x ∈ od.tail, turnC GG (run GG FF (n + 2)) (.n 4) [4] .noe (.bin .xor (.var 4) (.sub (.var 2) (.int 0))) [some (.tup (bs.map iv)), some (iv w), some (.lst (od.map iv)), some (.lst (ev.map iv)), none] (iv x) h = .ok (some (iv (x ^^^ o0))) h) →
        evF GG (run GG FF (n + 2)) (.comp [4] (.n 4) (.over (.slc (.var 2) (.sm (.int 1)) .noe)) .noe (.bin .xor (.var 4) (.sub (.var 2) (.int 0)))) [some (.tup (bs.map iv)), some (iv w), some (.lst (od.map iv)), some (.lst (ev.map iv)), none] h = .ok ((od.tail.map (· ^^^ o0)).map iv) h := fun o0 k => by
      have := comp_its_all (G := GG) (cf := run GG FF (n + 2)) (tg := .n 4) (own := [4]) (el := (.bin .xor (.var 4) (.sub (.var 2) (.int 0)))) (env := [some (.tup (bs.map iv)), some (iv w), some (.lst (od.map iv)), some (.lst (ev.map iv)), none]) (fun x => iv (x ^^^ o0)) es its_lst (by
        have := List.length_tail (l := od)
        show od.tail.length < 1000000
        omega) k
      rw [List.map_map]
      exact this
    by_cases hp : 0 < od.length
    · refine ⟨od[0], hod _ (List.getElem_mem hp), key _ fun x hx => ?_⟩
      unfold turnC
      simp only [evS, evE, evA, evF, evW, part1, part0, evC, List.getElem?_cons_zero, List.getElem?_cons_succ, putE, List.set_cons_zero, List.set_cons_succ, tgV, putEs, wipeE, walkC, walkF, bnd_ok', lift_some, bndS_nx, bndS_rt, iv_xor, iv_and, iv_add, iv_axor, iv_aadd, iv_eq, iv_ne, iv_lt, iv_gt, iv_le, tru_bl, int0, int1, int2, sub_0 hp]
    · have : od = [] := List.length_eq_zero_iff.mp (by omega)
      refine ⟨0, Nat.two_pow_pos l, key _ fun x hx => ?_⟩
      subst this
      cases hx
  have hlt : ∀ v ∈ ev ++ od.tail.map (· ^^^ o0) ++ [w], v < 2 ^ l := fun v hv => by
    rcases List.mem_append.mp hv with z | z
    · rcases List.mem_append.mp z with z | z
      · exact hev v z
      · obtain ⟨x, hx, rfl⟩ := List.mem_map.mp z
        exact Nat.xor_lt_two_pow (hod x (List.mem_of_mem_tail hx)) ho0
    · rw [List.mem_singleton.mp z]
      exact hw
  have htl : (od.tail.map (· ^^^ o0)).length ≤ 100 := by
    rw [List.length_map, List.length_tail]
    omega
  refine ⟨ev ++ od.tail.map (· ^^^ o0) ++ [w], hlt, ?_⟩
  have one : ∀ x : Vl, decide ([x].length ≤ line) = true := fun x => decide_eq_true (by show 1 ≤ line; decide)
  have k1 : catV h (.lst (ev.map iv)) (.lst ((od.tail.map (· ^^^ o0)).map iv)) = some ((ev ++ od.tail.map (· ^^^ o0)).map iv) := by
    show (if (ev.map iv).length + ((od.tail.map (· ^^^ o0)).map iv).length ≤ line then some (ev.map iv ++ (od.tail.map (· ^^^ o0)).map iv) else none) = _
    rw [if_pos (by rw [List.length_map, List.length_map]; omega), List.map_append]
  have k2 : catV h (.lst ((ev ++ od.tail.map (· ^^^ o0)).map iv)) (.lst [iv w]) = some ((ev ++ od.tail.map (· ^^^ o0) ++ [w]).map iv) := by
    show (if ((ev ++ od.tail.map (· ^^^ o0)).map iv).length + [iv w].length ≤ line then some ((ev ++ od.tail.map (· ^^^ o0)).map iv ++ [iv w]) else none) = _
    rw [if_pos (by rw [List.length_map, List.length_append, List.length_singleton]; omega), List.map_append (l₂ := [w])]
    rfl
  have q := q_lbasis (n := n) (h := h) (v := .lst ((ev ++ od.tail.map (· ^^^ o0) ++ [w]).map iv)) its_lst (fun v hv => Nat.lt_of_lt_of_le (hlt v hv) h24) (by rw [List.length_append, List.length_append, List.length_singleton]; omega)
  refine run_ret (d := f38) rfl rfl ?_
  have s1 : evS GG (run GG FF (n + 2)) (.set 2 (.fz (.comp [4] (.n 4) (.over (.var 0)) (.sm (.cmp .eq (.bin .mod (.call 31 (.acons (.bin .and (.var 4) (.var 1)) .anil)) (.int 2)) (.int 1))) (.var 4)))) [some (.tup (bs.map iv)), some (iv w), none, none, none] h = .ok (.nx [some (.tup (bs.map iv)), some (iv w), some (.lst (od.map iv)), none, none]) h := by
    simp only [c1, evS, evE, evA, f_disp, f_cat, f_listof, f_srt, evW, part1, part0, evC, List.getElem?_cons_zero, List.getElem?_cons_succ, putE, List.set_cons_zero, List.set_cons_succ, tgV, putEs, wipeE, walkC, walkF, bnd_ok', lift_some, bndS_nx, bndS_rt, iv_xor, iv_and, iv_add, iv_axor, iv_aadd, iv_eq, iv_ne, iv_lt, iv_gt, iv_le, tru_bl, int0, int1, int2]
  have s2 : evS GG (run GG FF (n + 2)) (.set 3 (.fz (.comp [4] (.n 4) (.over (.var 0)) (.sm (.cmp .eq (.bin .mod (.call 31 (.acons (.bin .and (.var 4) (.var 1)) .anil)) (.int 2)) (.int 0))) (.var 4)))) [some (.tup (bs.map iv)), some (iv w), some (.lst (od.map iv)), none, none] h = .ok (.nx [some (.tup (bs.map iv)), some (iv w), some (.lst (od.map iv)), some (.lst (ev.map iv)), none]) h := by
    simp only [c2, evS, evE, evA, f_disp, f_cat, f_listof, f_srt, evW, part1, part0, evC, List.getElem?_cons_zero, List.getElem?_cons_succ, putE, List.set_cons_zero, List.set_cons_succ, tgV, putEs, wipeE, walkC, walkF, bnd_ok', lift_some, bndS_nx, bndS_rt, iv_xor, iv_and, iv_add, iv_axor, iv_aadd, iv_eq, iv_ne, iv_lt, iv_gt, iv_le, tru_bl, int0, int1, int2]
  show evS GG (run GG FF (n + 2)) (.seq (.set 2 (.fz (.comp [4] (.n 4) (.over (.var 0)) (.sm (.cmp .eq (.bin .mod (.call 31 (.acons (.bin .and (.var 4) (.var 1)) .anil)) (.int 2)) (.int 1))) (.var 4)))) (.seq (.set 3 (.fz (.comp [4] (.n 4) (.over (.var 0)) (.sm (.cmp .eq (.bin .mod (.call 31 (.acons (.bin .and (.var 4) (.var 1)) .anil)) (.int 2)) (.int 0))) (.var 4)))) (.ret (.call 34 (.acons (.fz (.cat (.fz (.cat (.var 3) (.fz (.comp [4] (.n 4) (.over (.slc (.var 2) (.sm (.int 1)) .noe)) .noe (.bin .xor (.var 4) (.sub (.var 2) (.int 0))))))) (.fz (.disp (.acons (.var 1) .anil))))) .anil))))) [some (.tup (bs.map iv)), some (iv w), none, none, none] h = _
  rw [ev_seq, s1, bndS_nx, ev_seq, s2, bndS_nx]
  simp only [c3, evS, evE, evA, f_disp, f_cat, f_listof, f_srt, evW, part1, part0, evC, List.getElem?_cons_zero, List.getElem?_cons_succ, putE, List.set_cons_zero, List.set_cons_succ, tgV, putEs, wipeE, walkC, walkF, bnd_ok', lift_some, bndS_nx, bndS_rt, iv_xor, iv_and, iv_add, iv_axor, iv_aadd, iv_eq, iv_ne, iv_lt, iv_gt, iv_le, tru_bl, int0, int1, int2, k1, one, k2, q]
theorem o_shl3 {p : Nat} (hp : p ≤ 1000) : binV .shl h (iv 3) (iv p) = some (iv (3 * 2 ^ p)) := by
  have e : binI .shl 3 (p : Int) = some ((3 * 2 ^ p : Nat) : Int) := by
    show (if (3 : Int).natAbs.log2 + p < 100000 then some ((3 : Int) * 2 ^ p) else none) = _
    have : Nat.log2 3 = 1 := by decide
    rw [show (3 : Int).natAbs = 3 from rfl, this, if_pos (by omega), Int.natCast_mul, Int.natCast_pow]
    rfl
  show (match binI .shl 3 (p : Int) with | some k => some (Vl.int k) | none => none) = _
  rw [e]
  rfl
theorem xor_one {l w : Nat} (h1 : 1 ≤ l) (hw : w < 2 ^ l) : w ^^^ 1 < 2 ^ l := Nat.xor_lt_two_pow hw (Nat.lt_of_lt_of_le (show 1 < 2 by decide) (Nat.le_trans (by decide : 2 ≤ 2 ^ 1) (Nat.pow_le_pow_right (by decide) h1)))
theorem own_turn {p l : Nat} {bs : List Nat} (h1 : 1 ≤ l) (hl : l ≤ 24) (hp : Pail h p) (B : BasN l bs) {x2 x4 x5 x6 : Option Vl} : ∃ (vs : List Nat) (h' : Hh) (y5 : Option Vl), BasN l vs ∧ Drew h h' p ∧
    evS GG (run GG FF (n + 3)) (.seq (.set 5 (.call 29 (.acons (.var 0) (.acons (.bin .shl (.int 1) (.var 1)) .anil)))) (.seq (.set 5 (.ite (.cmp .eq (.bin .mod (.call 31 (.acons (.var 5) .anil)) (.int 2)) (.int 0)) (.var 5) (.bin .xor (.var 5) (.int 1)))) (.set 3 (.ite (.cmp .gt (.call 33 (.acons (.var 3) (.acons (.var 5) .anil))) (.int 0)) (.call 38 (.acons (.var 3) (.acons (.var 5) .anil))) (.var 3))))) [some (.ref p), some (iv l), x2, some (.tup (bs.map iv)), x4, x5, x6] h = .ok (.nx [some (.ref p), some (iv l), x2, some (.tup (vs.map iv)), x4, y5, x6]) h' := by
  have hlen := bas_le B
  have h24 : 2 ^ l ≤ 2 ^ 24 := Nat.pow_le_pow_right (by decide) hl
  obtain ⟨w0, h', hw0, e1, d⟩ := q_draw (n := n + 2) (h := h) (t := 2 ^ l) hp (Nat.two_pow_pos l) (log_small (Nat.le_trans h24 (by decide)))
  have s1 : evS GG (run GG FF (n + 3)) (.set 5 (.call 29 (.acons (.var 0) (.acons (.bin .shl (.int 1) (.var 1)) .anil)))) [some (.ref p), some (iv l), x2, some (.tup (bs.map iv)), x4, x5, x6] h = .ok (.nx [some (.ref p), some (iv l), x2, some (.tup (bs.map iv)), x4, some (iv w0), x6]) h' := by
    simp only [evS, evE, evA, evF, evW, part1, part0, evC, List.getElem?_cons_zero, List.getElem?_cons_succ, putE, List.set_cons_zero, List.set_cons_succ, tgV, putEs, wipeE, walkC, walkF, bnd_ok', lift_some, bndS_nx, bndS_rt, iv_xor, iv_and, iv_add, iv_axor, iv_aadd, iv_eq, iv_ne, iv_lt, iv_gt, iv_le, tru_bl, int0, int1, int2, o_shl (show l ≤ 1000 by omega), e1]
  obtain ⟨w, hw, s2⟩ : ∃ w, w < 2 ^ l ∧ evS GG (run GG FF (n + 3)) (.set 5 (.ite (.cmp .eq (.bin .mod (.call 31 (.acons (.var 5) .anil)) (.int 2)) (.int 0)) (.var 5) (.bin .xor (.var 5) (.int 1)))) [some (.ref p), some (iv l), x2, some (.tup (bs.map iv)), x4, some (iv w0), x6] h' = .ok (.nx [some (.ref p), some (iv l), x2, some (.tup (bs.map iv)), x4, some (iv w), x6]) h' := by
    have hb := q_bits (n := n + 2) (h := h') (w := w0) (Nat.lt_of_lt_of_le hw0 h24)
    by_cases hz : ones 24 w0 % 2 = 0
    · exact ⟨w0, hw0, by simp only [evS, evE, evA, evF, evW, part1, part0, evC, List.getElem?_cons_zero, List.getElem?_cons_succ, putE, List.set_cons_zero, List.set_cons_succ, tgV, putEs, wipeE, walkC, walkF, bnd_ok', lift_some, bndS_nx, bndS_rt, iv_xor, iv_and, iv_add, iv_axor, iv_aadd, iv_eq, iv_ne, iv_lt, iv_gt, iv_le, tru_bl, int0, int1, int2, hb, o_mod (show 0 < 2 by decide), decide_eq_true hz]⟩
    · exact ⟨w0 ^^^ 1, xor_one h1 hw0, by simp only [evS, evE, evA, evF, evW, part1, part0, evC, List.getElem?_cons_zero, List.getElem?_cons_succ, putE, List.set_cons_zero, List.set_cons_succ, tgV, putEs, wipeE, walkC, walkF, bnd_ok', lift_some, bndS_nx, bndS_rt, iv_xor, iv_and, iv_add, iv_axor, iv_aadd, iv_eq, iv_ne, iv_lt, iv_gt, iv_le, tru_bl, int0, int1, int2, hb, o_mod (show 0 < 2 by decide), decide_eq_false hz]⟩
  have q := q_rest (n := n + 2) (h := h') (v := .tup (bs.map iv)) its_tup (bas_pos B) (show bs.length < 1000000 by omega) w
  have se : ∀ env h, evS GG (run GG FF (n + 3)) (.seq (.set 5 (.call 29 (.acons (.var 0) (.acons (.bin .shl (.int 1) (.var 1)) .anil)))) (.seq (.set 5 (.ite (.cmp .eq (.bin .mod (.call 31 (.acons (.var 5) .anil)) (.int 2)) (.int 0)) (.var 5) (.bin .xor (.var 5) (.int 1)))) (.set 3 (.ite (.cmp .gt (.call 33 (.acons (.var 3) (.acons (.var 5) .anil))) (.int 0)) (.call 38 (.acons (.var 3) (.acons (.var 5) .anil))) (.var 3))))) env h = bndS (evS GG (run GG FF (n + 3)) (.set 5 (.call 29 (.acons (.var 0) (.acons (.bin .shl (.int 1) (.var 1)) .anil)))) env h) fun env h => bndS (evS GG (run GG FF (n + 3)) (.set 5 (.ite (.cmp .eq (.bin .mod (.call 31 (.acons (.var 5) .anil)) (.int 2)) (.int 0)) (.var 5) (.bin .xor (.var 5) (.int 1)))) env h) fun env h => evS GG (run GG FF (n + 3)) (.set 3 (.ite (.cmp .gt (.call 33 (.acons (.var 3) (.acons (.var 5) .anil))) (.int 0)) (.call 38 (.acons (.var 3) (.acons (.var 5) .anil))) (.var 3))) env h := fun _ _ => rfl
  by_cases hr : 0 < rem bs w
  · obtain ⟨vs, hv, qb⟩ := q_beside (n := n) (h := h') (bs := bs) B.lt (by omega) hl hw
    refine ⟨basis vs, h', some (iv w), basN l hv, d, ?_⟩
    rw [se, s1, bndS_nx, s2, bndS_nx]
    simp only [evS, evE, evA, evF, evW, part1, part0, evC, List.getElem?_cons_zero, List.getElem?_cons_succ, putE, List.set_cons_zero, List.set_cons_succ, tgV, putEs, wipeE, walkC, walkF, bnd_ok', lift_some, bndS_nx, bndS_rt, iv_xor, iv_and, iv_add, iv_axor, iv_aadd, iv_eq, iv_ne, iv_lt, iv_gt, iv_le, tru_bl, int0, int1, int2, q, decide_eq_true hr, qb]
  · refine ⟨bs, h', some (iv w), B, d, ?_⟩
    rw [se, s1, bndS_nx, s2, bndS_nx]
    simp only [evS, evE, evA, evF, evW, part1, part0, evC, List.getElem?_cons_zero, List.getElem?_cons_succ, putE, List.set_cons_zero, List.set_cons_succ, tgV, putEs, wipeE, walkC, walkF, bnd_ok', lift_some, bndS_nx, bndS_rt, iv_xor, iv_and, iv_add, iv_axor, iv_aadd, iv_eq, iv_ne, iv_lt, iv_gt, iv_le, tru_bl, int0, int1, int2, q, decide_eq_false hr]
theorem q_own {p l k : Nat} (hp : Pail h p) (h1 : 1 ≤ l) (hl : l ≤ 24) (hk : k ≤ 1000) : ∃ (bs : List Nat) (h' : Hh), BasN l bs ∧ run GG FF (n + 4) 39 [.ref p, iv l, iv k] h = .ok (.tup (bs.map iv)) h' ∧ Drew h h' p := by
  have big := line_big
  have c : evF GG (run GG FF (n + 3)) (.comp [6] (.n 6) (.range (.acons (.bin .fdiv (.var 1) (.int 2)) .anil)) .noe (.bin .shl (.int 3) (.bin .mul (.int 2) (.var 6)))) [some (.ref p), some (iv l), some (iv k), none, none, none, none] h = .ok (((List.range (l / 2)).map fun a => 3 * 2 ^ (2 * a)).map iv) h := by
    have ew : evW GG (run GG FF (n + 3)) (.range (.acons (.bin .fdiv (.var 1) (.int 2)) .anil)) [some (.ref p), some (iv l), some (iv k), none, none, none, none] h = .ok (.its ((List.range (l / 2)).map iv)) h := range_ev (by omega) (by simp only [evS, evE, evA, evF, evW, part1, part0, evC, List.getElem?_cons_zero, List.getElem?_cons_succ, putE, List.set_cons_zero, List.set_cons_succ, tgV, putEs, wipeE, walkC, walkF, bnd_ok', lift_some, bndS_nx, bndS_rt, iv_xor, iv_and, iv_add, iv_axor, iv_aadd, iv_eq, iv_ne, iv_lt, iv_gt, iv_le, tru_bl, int0, int1, int2, iv_fdiv (show 0 < 2 by decide) (show Nat.log2 2 < 9000 by decide)])
    rw [ev_comp, ew, bnd_ok']
    show compL (turnC GG (run GG FF (n + 3)) _ _ _ _ _) ((List.range (l / 2)).map iv) [] h = _
    rw [compL_map (k := fun a => iv (3 * 2 ^ (2 * a))) (by simp; omega) fun a ha => ?_, List.nil_append, List.map_map]
    · rfl
    · have ha : a < 12 := by
        have := List.mem_range.mp ha
        omega
      unfold turnC
      simp only [evS, evE, evA, evF, evW, part1, part0, evC, List.getElem?_cons_zero, List.getElem?_cons_succ, putE, List.set_cons_zero, List.set_cons_succ, tgV, putEs, wipeE, walkC, walkF, bnd_ok', lift_some, bndS_nx, bndS_rt, iv_xor, iv_and, iv_add, iv_axor, iv_aadd, iv_eq, iv_ne, iv_lt, iv_gt, iv_le, tru_bl, int0, int1, int2, iv_mul (Or.inl (show 2 < 18446744073709551616 by decide)), show Vl.int 3 = iv 3 from rfl, o_shl3 (show 2 * a ≤ 1000 by omega)]
  have rv : revW h (.lst (((List.range (l / 2)).map fun a => 3 * 2 ^ (2 * a)).map iv)) = some (.lst ((own0 l).map iv)) := by
    show some (Vl.lst (((List.range (l / 2)).map fun a => 3 * 2 ^ (2 * a)).map iv).reverse) = _
    unfold own0
    rw [List.map_reverse]
  have lt : ∀ l : List Vl, bifV .tuple h [.lst l] = some (.tup l) := fun l => rfl
  have s1 : evS GG (run GG FF (n + 3)) (.set 3 (.bif .tuple (.acons (.rev (.fz (.comp [6] (.n 6) (.range (.acons (.bin .fdiv (.var 1) (.int 2)) .anil)) .noe (.bin .shl (.int 3) (.bin .mul (.int 2) (.var 6)))))) .anil))) [some (.ref p), some (iv l), some (iv k), none, none, none, none] h = .ok (.nx [some (.ref p), some (iv l), some (iv k), some (.tup ((own0 l).map iv)), none, none, none]) h := by
    simp only [c, evS, evE, evA, f_disp, f_cat, f_listof, f_srt, evW, part1, part0, evC, List.getElem?_cons_zero, List.getElem?_cons_succ, putE, List.set_cons_zero, List.set_cons_succ, tgV, putEs, wipeE, walkC, walkF, bnd_ok', lift_some, bndS_nx, bndS_rt, iv_xor, iv_and, iv_add, iv_axor, iv_aadd, iv_eq, iv_ne, iv_lt, iv_gt, iv_le, tru_bl, int0, int1, int2, rv, lt]
  have ew : evW GG (run GG FF (n + 3)) (.range (.acons (.var 2) .anil)) [some (.ref p), some (iv l), some (iv k), some (.tup ((own0 l).map iv)), none, none, none] h = .ok (.its ((List.range k).map iv)) h := range_ev (by omega) (by simp only [evS, evE, evA, evF, evW, part1, part0, evC, List.getElem?_cons_zero, List.getElem?_cons_succ, putE, List.set_cons_zero, List.set_cons_succ, tgV, putEs, wipeE, walkC, walkF, bnd_ok', lift_some, bndS_nx, bndS_rt, iv_xor, iv_and, iv_add, iv_axor, iv_aadd, iv_eq, iv_ne, iv_lt, iv_gt, iv_le, tru_bl, int0, int1, int2])
  obtain ⟨env', h', e, bs, x4, x5, rfl, B, d⟩ := for_pre (G := GG) (cf := run GG FF (n + 3)) (tg := .n 4) (b := (.seq (.set 5 (.call 29 (.acons (.var 0) (.acons (.bin .shl (.int 1) (.var 1)) .anil)))) (.seq (.set 5 (.ite (.cmp .eq (.bin .mod (.call 31 (.acons (.var 5) .anil)) (.int 2)) (.int 0)) (.var 5) (.bin .xor (.var 5) (.int 1)))) (.set 3 (.ite (.cmp .gt (.call 33 (.acons (.var 3) (.acons (.var 5) .anil))) (.int 0)) (.call 38 (.acons (.var 3) (.acons (.var 5) .anil))) (.var 3)))))) (g := iv) (xs := List.range k) (env := [some (.ref p), some (iv l), some (iv k), some (.tup ((own0 l).map iv)), none, none, none]) (h := h)
    (fun pre env h' => ∃ (bs : List Nat) (x4 x5 : Option Vl), env = [some (.ref p), some (iv l), some (iv k), some (.tup (bs.map iv)), x4, x5, none] ∧ BasN l bs ∧ Drew h h' p) ⟨own0 l, none, none, rfl, own0_basN, Drew.refl hp⟩
    (fun pre x post ex env h' i => by
      obtain ⟨bs, x4, x5, rfl, B, d⟩ := i
      obtain ⟨vs, h2, y5, B2, d2, e2⟩ := own_turn (n := n) (h := h') (p := p) h1 hl d.1 B (x2 := some (iv k)) (x4 := some (iv x)) (x5 := x5) (x6 := none)
      exact ⟨_, _, _, rfl, e2, vs, some (iv x), y5, rfl, B2, d.trans d2⟩)
  refine ⟨bs, h', B, ?_, d⟩
  have e3 : evS GG (run GG FF (n + 3)) (.seq (.set 3 (.bif .tuple (.acons (.rev (.fz (.comp [6] (.n 6) (.range (.acons (.bin .fdiv (.var 1) (.int 2)) .anil)) .noe (.bin .shl (.int 3) (.bin .mul (.int 2) (.var 6)))))) .anil))) (.seq (.fors (.n 4) (.range (.acons (.var 2) .anil)) (.seq (.set 5 (.call 29 (.acons (.var 0) (.acons (.bin .shl (.int 1) (.var 1)) .anil)))) (.seq (.set 5 (.ite (.cmp .eq (.bin .mod (.call 31 (.acons (.var 5) .anil)) (.int 2)) (.int 0)) (.var 5) (.bin .xor (.var 5) (.int 1)))) (.set 3 (.ite (.cmp .gt (.call 33 (.acons (.var 3) (.acons (.var 5) .anil))) (.int 0)) (.call 38 (.acons (.var 3) (.acons (.var 5) .anil))) (.var 3)))))) (.ret (.var 3)))) [some (.ref p), some (iv l), some (iv k), none, none, none, none] h = .ok (.rt (.tup (bs.map iv))) h' := by
    rw [ev_seq, s1, bndS_nx, ev_seq, ev_fors, ew, bnd_ok']
    show bndS (forL _ _ _ _) _ = _
    rw [e, bndS_nx]
    simp only [evS, evE, evA, evF, evW, part1, part0, evC, List.getElem?_cons_zero, List.getElem?_cons_succ, putE, List.set_cons_zero, List.set_cons_succ, tgV, putEs, wipeE, walkC, walkF, bnd_ok', lift_some, bndS_nx, bndS_rt, iv_xor, iv_and, iv_add, iv_axor, iv_aadd, iv_eq, iv_ne, iv_lt, iv_gt, iv_le, tru_bl, int0, int1, int2]
  exact run_rt2 (d := f39) rfl rfl e3 (by rw [d.len]; exact Nat.le_refl _)
end
end Law
set_option Elab.async false
set_option linter.all false
set_option maxRecDepth 100000
set_option maxHeartbeats 1000000
namespace Law
open Mi Gf
section
variable {n : Nat} {h : Hh}
theorem pl_ivs : ∀ (k : Nat) (ws : List Nat), plL (ws.map iv) k = true
  | k, [] => by simp [plL]
  | k, w :: ws => by
    rw [List.map_cons]
    unfold plL
    rw [show pl (iv w) k = true from by unfold iv; cases k <;> simp [pl]]
    exact pl_ivs k ws
theorem eqL_ivs : ∀ as bs : List Nat, eqL (as.map iv) (bs.map iv) = decide (as = bs)
  | [], [] => by simp [eqL]
  | [], b :: bs => by simp [eqL]
  | a :: as, [] => by simp [eqL]
  | a :: as, b :: bs => by
    rw [List.map_cons, List.map_cons]
    unfold eqL
    rw [eqL_ivs as bs]
    have e : eqV (iv a) (iv b) = decide (a = b) := by
      unfold iv eqV
      by_cases hab : a = b
      · subst hab
        simp
      · rw [decide_eq_false hab]
        simp
        omega
    rw [e]
    by_cases hab : a = b
    · subst hab
      rw [decide_eq_true rfl]
      simp
    · rw [decide_eq_false hab]
      simp [hab]
theorem tup_eq (as bs : List Nat) : cmpV .eq h (.tup (as.map iv)) (.tup (bs.map iv)) = some (decide (as = bs)) := by
  have e1 : pl (.tup (as.map iv)) 20 = true := pl_ivs 19 as
  have e2 : pl (.tup (bs.map iv)) 20 = true := pl_ivs 19 bs
  show (match pl (.tup (as.map iv)) 20 with
    | true => match pl (.tup (bs.map iv)) 20 with
      | true => some (eqV (.tup (as.map iv)) (.tup (bs.map iv)))
      | false => none
    | false => none) = _
  rw [e1, e2]
  show some (eqL (as.map iv) (bs.map iv)) = _
  rw [eqL_ivs]
theorem tup_neq (as bs : List Nat) : cmpV .ne h (.tup (as.map iv)) (.tup (bs.map iv)) = some (!decide (as = bs)) := by
  show (match cmpV .eq h (.tup (as.map iv)) (.tup (bs.map iv)) with
    | some b => some (!b)
    | none => none) = _
  rw [tup_eq]
theorem tup_neqs (as : List Nat) : cmpV .ne h (.tup (as.map iv)) (.tup (as.map iv)) = some false := by rw [tup_neq, decide_eq_true rfl]; rfl
theorem tup_neq0 (as : List Nat) : cmpV .ne h (.tup (as.map iv)) (.tup []) = some (!decide (as = [])) := tup_neq as []
theorem pair_ne (a b : Nat) : cmpV .ne h (.tup [iv a, iv b]) (.tup [iv a, iv b]) = some false := tup_neqs [a, b]
theorem in_ivt (p : Nat) (ps : List Nat) : isIn h (iv p) (.tup (ps.map iv)) = some (ps.contains p) := by
  have e := in_iv (h := h) p ps
  exact e
theorem q_eq {l : Nat} {as bs : List Nat} : run GG FF (n + 1) 48 [code l as, code l bs] h = .ok (.bl (decide (as = bs))) h := by
  refine run_ret (d := f48) rfl rfl ?_
  have e1 : isownR 0 (code l bs) h = .ok (.bl true) h := rfl
  show evS GG (run GG FF n) (.seq (.ifs (.not (.isown 0 (.var 1))) (.ret (.bl false)) .skip) (.ret (.and (.cmp .eq (.attr (.var 0) 1) (.attr (.var 1) 1)) (.cmp .eq (.attr (.var 0) 0) (.attr (.var 1) 0))))) [some (code l as), some (code l bs)] h = _
  simp only [evS, evE, evA, evF, evW, part1, part0, evC, List.getElem?_cons_zero, List.getElem?_cons_succ, putE, List.set_cons_zero, List.set_cons_succ, tgV, putEs, wipeE, walkC, walkF, bnd_ok', lift_some, bndS_nx, bndS_rt, iv_xor, iv_and, iv_add, iv_axor, iv_aadd, iv_eq, iv_ne, iv_lt, iv_gt, iv_le, tru_bl, int0, int1, int2, e1, at_len, at_bas, tup_eq, decide_true, Bool.not_true]
theorem o_cmp {l : Nat} {as bs : List Nat} {neg : Bool} : ocmpR GG (run GG FF (n + 1)) neg (code l as) (code l bs) h = .ok (.bl (decide (as = bs) != neg)) h := by
  have e : ocmpR GG (run GG FF (n + 1)) neg (code l as) (code l bs) h = bnd (noX (run GG FF (n + 1) 48 [code l as, code l bs] h)) fun v h => match v with
    | .bl r => R.ok (Vl.bl (r != neg)) h
    | _ => .bad := rfl
  rw [e, q_eq]
  rfl
theorem two_line (a b : Vl) : decide ([a, b].length ≤ line) = true := decide_eq_true (by show 2 ≤ line; decide)
theorem nil_line : decide (([] : List Vl).length ≤ line) = true := decide_eq_true (Nat.zero_le _)
theorem o_subI (a b : Nat) : binV .sub h (iv a) (iv b) = some (.int ((a : Int) - b)) := rfl
theorem o_mul2 (i : Int) : binV .mul h (iv 2) (.int i) = some (.int (2 * i)) := by
  have e : binI .mul 2 i = some (2 * i) := by
    show (if (2 : Int).natAbs.log2 + i.natAbs.log2 < 1000000 ∨ (-18446744073709551616 < (2 : Int) ∧ (2 : Int) < 18446744073709551616) ∨ (-18446744073709551616 < i ∧ i < 18446744073709551616) then some ((2 : Int) * i) else none) = _
    rw [if_pos (.inr (.inl (by decide)))]
  show (match binI .mul 2 i with | some k => some (Vl.int k) | none => none) = _
  rw [e]
theorem int_nes (i : Int) : cmpV .ne h (.int i) (.int i) = some false := by
  show (match (match pl (.int i) 20 with
    | true => match pl (.int i) 20 with
      | true => some (eqV (.int i) (.int i))
      | false => none
    | false => none) with
    | some b => some (!b)
    | none => none) = _
  simp [pl, eqV]
section
variable {l : Nat} {bs ps : List Nat} {x0 x1 x2 x3 x4 x5 x6 x7 x8 x9 x10 x11 x12 : Option Vl}
theorem t_rest (hl : l ≤ 24) : evS GG (run GG FF n) (.set 3 (.bif .tuple (.acons (.fz (.comp [12] (.n 12) (.range (.acons (.var 1) .anil)) (.sm (.cmp .notin (.var 12) (.var 7))) (.var 12))) .anil))) [x0, some (iv l), x2, x3, x4, x5, x6, some (.tup (ps.map iv)), x8, x9, x10, x11, x12] h = .ok (.nx [x0, some (iv l), x2, some (.tup ((restP l ps).map iv)), x4, x5, x6, some (.tup (ps.map iv)), x8, x9, x10, x11, x12]) h := by
  have c : evF GG (run GG FF n) (.comp [12] (.n 12) (.range (.acons (.var 1) .anil)) (.sm (.cmp .notin (.var 12) (.var 7))) (.var 12)) [x0, some (iv l), x2, x3, x4, x5, x6, some (.tup (ps.map iv)), x8, x9, x10, x11, x12] h = .ok ((restP l ps).map iv) h := by
    have ew : evW GG (run GG FF n) (.range (.acons (.var 1) .anil)) [x0, some (iv l), x2, x3, x4, x5, x6, some (.tup (ps.map iv)), x8, x9, x10, x11, x12] h = .ok (.its ((List.range l).map iv)) h := range_ev (by omega) (by simp only [evS, evE, evA, evF, evW, part1, part0, evC, List.getElem?_cons_zero, List.getElem?_cons_succ, putE, List.set_cons_zero, List.set_cons_succ, tgV, putEs, wipeE, walkC, walkF, bnd_ok', lift_some, bndS_nx, bndS_rt, iv_xor, iv_and, iv_add, iv_axor, iv_aadd, iv_eq, iv_ne, iv_lt, iv_gt, iv_le, tru_bl, int0, int1, int2])
    rw [ev_comp, ew, bnd_ok']
    show compL (turnC GG (run GG FF n) _ _ _ _ _) ((List.range l).map iv) [] h = _
    rw [compL_filter (p := fun p => !ps.contains p) (k := iv) (by have := line_big; simp; omega) fun p hp => ?_, List.nil_append]
    · rfl
    · unfold turnC
      simp only [evS, evE, evA, evF, evW, part1, part0, evC, List.getElem?_cons_zero, List.getElem?_cons_succ, putE, List.set_cons_zero, List.set_cons_succ, tgV, putEs, wipeE, walkC, walkF, bnd_ok', lift_some, bndS_nx, bndS_rt, iv_xor, iv_and, iv_add, iv_axor, iv_aadd, iv_eq, iv_ne, iv_lt, iv_gt, iv_le, tru_bl, int0, int1, int2, cmpV, in_ivt]
      cases ps.contains p with
      | true => simp only [evS, evE, evA, evF, evW, part1, part0, evC, List.getElem?_cons_zero, List.getElem?_cons_succ, putE, List.set_cons_zero, List.set_cons_succ, tgV, putEs, wipeE, walkC, walkF, bnd_ok', lift_some, bndS_nx, bndS_rt, iv_xor, iv_and, iv_add, iv_axor, iv_aadd, iv_eq, iv_ne, iv_lt, iv_gt, iv_le, tru_bl, int0, int1, int2, Bool.not_true, Bool.false_eq_true, if_false]
      | false => simp only [evS, evE, evA, evF, evW, part1, part0, evC, List.getElem?_cons_zero, List.getElem?_cons_succ, putE, List.set_cons_zero, List.set_cons_succ, tgV, putEs, wipeE, walkC, walkF, bnd_ok', lift_some, bndS_nx, bndS_rt, iv_xor, iv_and, iv_add, iv_axor, iv_aadd, iv_eq, iv_ne, iv_lt, iv_gt, iv_le, tru_bl, int0, int1, int2, Bool.not_false, if_true]
  have lt : ∀ l : List Vl, bifV .tuple h [.lst l] = some (.tup l) := fun l => rfl
  simp only [c, evS, evE, evA, f_disp, f_cat, f_listof, f_srt, evW, part1, part0, evC, List.getElem?_cons_zero, List.getElem?_cons_succ, putE, List.set_cons_zero, List.set_cons_succ, tgV, putEs, wipeE, walkC, walkF, bnd_ok', lift_some, bndS_nx, bndS_rt, iv_xor, iv_and, iv_add, iv_axor, iv_aadd, iv_eq, iv_ne, iv_lt, iv_gt, iv_le, tru_bl, int0, int1, int2, lt]
theorem t_both (B : BasN l bs) (L : Lot l ps) (hl : l ≤ 24) (hp : ps ≠ []) (hw : Wf h) : evS GG (run GG FF (n + 9)) (.par [8, 9] (.acons (.call 26 (.acons (.var 6) (.acons (.var 7) .anil))) (.acons (.call 27 (.acons (.var 6) (.acons (.var 7) .anil))) .anil))) [x0, x1, x2, x3, x4, x5, some (code l bs), some (.tup (ps.map iv)), x8, x9, x10, x11, x12] h = .ok (.nx [x0, x1, x2, x3, x4, x5, some (code l bs), some (.tup (ps.map iv)), some (code ps.length (partB l bs ps)), some (code ps.length (traceB bs ps)), x10, x11, x12]) h := by
  simp only [evS, evE, evA, evF, evW, part1, part0, evC, List.getElem?_cons_zero, List.getElem?_cons_succ, putE, List.set_cons_zero, List.set_cons_succ, tgV, putEs, wipeE, walkC, walkF, bnd_ok', lift_some, bndS_nx, bndS_rt, iv_xor, iv_and, iv_add, iv_axor, iv_aadd, iv_eq, iv_ne, iv_lt, iv_gt, iv_le, tru_bl, int0, int1, int2, q_parton (n := n) B L hl hp hw, q_traceon (n := n + 2) B L hl hp hw]
theorem t_trace (B : BasN l bs) (L : Lot l ps) (hl : l ≤ 24) : evS GG (run GG FF (n + 9)) (.ifs (.or (.cmp .ne (.tup (.acons (.attr (.var 8) 2) (.acons (.attr (.var 9) 2) .anil))) (.tup (.acons (.bif .len (.acons (.var 7) .anil)) (.acons (.bif .len (.acons (.var 7) .anil)) .anil)))) (.cmp .ne (.attr (.var 9) 3) (.call 34 (.acons (.fz (.comp [11] (.n 11) (.over (.var 2)) .noe (.call 41 (.acons (.var 11) (.acons (.var 7) .anil))))) .anil)))) (.ret (.bl false)) .skip) [x0, x1, some (.tup (bs.map iv)), x3, x4, x5, x6, some (.tup (ps.map iv)), some (code ps.length (partB l bs ps)), some (code ps.length (traceB bs ps)), x10, x11, x12] h = .ok (.nx [x0, x1, some (.tup (bs.map iv)), x3, x4, x5, x6, some (.tup (ps.map iv)), some (code ps.length (partB l bs ps)), some (code ps.length (traceB bs ps)), x10, x11, x12]) h := by
  have hlen := bas_le B
  have hz : ps.length ≤ 24 := Nat.le_trans L.len hl
  have c : evF GG (run GG FF (n + 9)) (.comp [11] (.n 11) (.over (.var 2)) .noe (.call 41 (.acons (.var 11) (.acons (.var 7) .anil)))) [x0, x1, some (.tup (bs.map iv)), x3, x4, x5, x6, some (.tup (ps.map iv)), some (code ps.length (partB l bs ps)), some (code ps.length (traceB bs ps)), x10, x11, x12] h = .ok ((bs.map fun w => cutF 0 w ps).map iv) h := by
    have := comp_its_all (G := GG) (cf := run GG FF (n + 9)) (tg := .n 11) (own := [11]) (el := (.call 41 (.acons (.var 11) (.acons (.var 7) .anil)))) (e := .var 2) (env := [x0, x1, some (.tup (bs.map iv)), x3, x4, x5, x6, some (.tup (ps.map iv)), some (code ps.length (partB l bs ps)), some (code ps.length (traceB bs ps)), x10, x11, x12]) (h := h) (fun w => iv (cutF 0 w ps)) rfl its_tup (show bs.length < 1000000 by omega) fun w _ => by
      unfold turnC
      simp only [evS, evE, evA, evF, evW, part1, part0, evC, List.getElem?_cons_zero, List.getElem?_cons_succ, putE, List.set_cons_zero, List.set_cons_succ, tgV, putEs, wipeE, walkC, walkF, bnd_ok', lift_some, bndS_nx, bndS_rt, iv_xor, iv_and, iv_add, iv_axor, iv_aadd, iv_eq, iv_ne, iv_lt, iv_gt, iv_le, tru_bl, int0, int1, int2, q_lcut (n := n + 8) w hz]
    rw [List.map_map]
    exact this
  have q := q_lbasis (n := n + 7) (h := h) (v := .lst ((bs.map fun w => cutF 0 w ps).map iv)) its_lst (cuts_lt bs ps hz) (by rw [List.length_map]; omega)
  rw [show basis (bs.map fun w => cutF 0 w ps) = traceB bs ps from rfl] at q
  simp only [c, evS, evE, evA, f_disp, f_cat, f_listof, f_srt, evW, part1, part0, evC, List.getElem?_cons_zero, List.getElem?_cons_succ, putE, List.set_cons_zero, List.set_cons_succ, tgV, putEs, wipeE, walkC, walkF, bnd_ok', lift_some, bndS_nx, bndS_rt, iv_xor, iv_and, iv_add, iv_axor, iv_aadd, iv_eq, iv_ne, iv_lt, iv_gt, iv_le, tru_bl, int0, int1, int2, a_len (n := n + 8), a_bas (n := n + 8), its_tup.len, two_line, pair_ne, q, tup_neqs]
theorem t_part (B : BasN l bs) (L : Lot l ps) (hl : l ≤ 24) (hw : Wf h) : evS GG (run GG FF (n + 9)) (.ifs (.cmp .ne (.attr (.var 8) 3) (.call 36 (.acons (.bif .len (.acons (.var 7) .anil)) (.acons (.call 34 (.acons (.fz (.comp [11] (.n 11) (.over (.call 36 (.acons (.var 1) (.acons (.var 2) .anil)))) .noe (.call 41 (.acons (.var 11) (.acons (.var 7) .anil))))) .anil)) .anil)))) (.ret (.bl false)) .skip) [x0, some (iv l), some (.tup (bs.map iv)), x3, x4, x5, x6, some (.tup (ps.map iv)), some (code ps.length (partB l bs ps)), x9, x10, x11, x12] h = .ok (.nx [x0, some (iv l), some (.tup (bs.map iv)), x3, x4, x5, x6, some (.tup (ps.map iv)), some (code ps.length (partB l bs ps)), x9, x10, x11, x12]) h := by
  have B2 := dual_basN B
  have hlen := bas_le B2
  have hz : ps.length ≤ 24 := Nat.le_trans L.len hl
  have d1 := q_ldual (n := n + 6) (h := h) B hl hw
  have c : evF GG (run GG FF (n + 9)) (.comp [11] (.n 11) (.over (.call 36 (.acons (.var 1) (.acons (.var 2) .anil)))) .noe (.call 41 (.acons (.var 11) (.acons (.var 7) .anil)))) [x0, some (iv l), some (.tup (bs.map iv)), x3, x4, x5, x6, some (.tup (ps.map iv)), some (code ps.length (partB l bs ps)), x9, x10, x11, x12] h = .ok (((dualB l bs).map fun w => cutF 0 w ps).map iv) h := by
    have := comp_its_all (G := GG) (cf := run GG FF (n + 9)) (tg := .n 11) (own := [11]) (el := (.call 41 (.acons (.var 11) (.acons (.var 7) .anil)))) (e := (.call 36 (.acons (.var 1) (.acons (.var 2) .anil)))) (env := [x0, some (iv l), some (.tup (bs.map iv)), x3, x4, x5, x6, some (.tup (ps.map iv)), some (code ps.length (partB l bs ps)), x9, x10, x11, x12]) (h := h) (v := .tup ((dualB l bs).map iv)) (ws := dualB l bs) (fun w => iv (cutF 0 w ps)) (by simp only [evS, evE, evA, evF, evW, part1, part0, evC, List.getElem?_cons_zero, List.getElem?_cons_succ, putE, List.set_cons_zero, List.set_cons_succ, tgV, putEs, wipeE, walkC, walkF, bnd_ok', lift_some, bndS_nx, bndS_rt, iv_xor, iv_and, iv_add, iv_axor, iv_aadd, iv_eq, iv_ne, iv_lt, iv_gt, iv_le, tru_bl, int0, int1, int2, d1]) its_tup (show (dualB l bs).length < 1000000 by omega) fun w _ => by
      unfold turnC
      simp only [evS, evE, evA, evF, evW, part1, part0, evC, List.getElem?_cons_zero, List.getElem?_cons_succ, putE, List.set_cons_zero, List.set_cons_succ, tgV, putEs, wipeE, walkC, walkF, bnd_ok', lift_some, bndS_nx, bndS_rt, iv_xor, iv_and, iv_add, iv_axor, iv_aadd, iv_eq, iv_ne, iv_lt, iv_gt, iv_le, tru_bl, int0, int1, int2, q_lcut (n := n + 8) w hz]
    rw [List.map_map]
    exact this
  have q := q_lbasis (n := n + 7) (h := h) (v := .lst (((dualB l bs).map fun w => cutF 0 w ps).map iv)) its_lst (cuts_lt _ ps hz) (by rw [List.length_map]; omega)
  rw [show basis ((dualB l bs).map fun w => cutF 0 w ps) = traceB (dualB l bs) ps from rfl] at q
  have d2 := q_ldual (n := n + 6) (h := h) (trace_basN (bs := dualB l bs) ps) hz hw
  rw [← part_dual B L hl] at d2
  simp only [c, evS, evE, evA, f_disp, f_cat, f_listof, f_srt, evW, part1, part0, evC, List.getElem?_cons_zero, List.getElem?_cons_succ, putE, List.set_cons_zero, List.set_cons_succ, tgV, putEs, wipeE, walkC, walkF, bnd_ok', lift_some, bndS_nx, bndS_rt, iv_xor, iv_and, iv_add, iv_axor, iv_aadd, iv_eq, iv_ne, iv_lt, iv_gt, iv_le, tru_bl, int0, int1, int2, a_bas (n := n + 8), its_tup.len, q, d2, tup_neqs]
theorem t_duals (B : BasN l bs) (L : Lot l ps) (h1 : 1 ≤ l) (hl : l ≤ 24) (hp : ps ≠ []) (hw : Wf h) : evS GG (run GG FF (n + 9)) (.ifs (.or (.ocmp true (.call 25 (.acons (.var 8) .anil)) (.call 27 (.acons (.call 25 (.acons (.var 6) .anil)) (.acons (.var 7) .anil)))) (.ocmp true (.call 25 (.acons (.var 9) .anil)) (.call 26 (.acons (.call 25 (.acons (.var 6) .anil)) (.acons (.var 7) .anil))))) (.ret (.bl false)) .skip) [x0, x1, x2, x3, x4, x5, some (code l bs), some (.tup (ps.map iv)), some (code ps.length (partB l bs ps)), some (code ps.length (traceB bs ps)), x10, x11, x12] h = .ok (.nx [x0, x1, x2, x3, x4, x5, some (code l bs), some (.tup (ps.map iv)), some (code ps.length (partB l bs ps)), some (code ps.length (traceB bs ps)), x10, x11, x12]) h := by
  have B2 := dual_basN B
  obtain ⟨z1, z2⟩ := lot_pos L hl hp
  have e1 : dualB ps.length (partB l bs ps) = traceB (dualB l bs) ps := by rw [part_dual B L hl, dual_dual (trace_basN ps) z2]
  have e2 : partB l (dualB l bs) ps = dualB ps.length (traceB bs ps) := by rw [part_dual B2 L hl, dual_dual B hl]
  have d1 := q_dual (n := n + 2) (h := h) (part_basN (l := l) (bs := bs) (ps := ps)) z1 z2 hw
  have d2 := q_dual (n := n + 2) (h := h) (trace_basN (bs := bs) ps) z1 z2 hw
  have d3 := q_dual (n := n + 2) (h := h) B h1 hl hw
  have d4 := q_traceon (n := n + 2) (h := h) B2 L hl hp hw
  have d5 := q_parton (n := n) (h := h) B2 L hl hp hw
  rw [e1] at d1
  rw [e2] at d5
  simp only [evS, evE, evA, evF, evW, part1, part0, evC, List.getElem?_cons_zero, List.getElem?_cons_succ, putE, List.set_cons_zero, List.set_cons_succ, tgV, putEs, wipeE, walkC, walkF, bnd_ok', lift_some, bndS_nx, bndS_rt, iv_xor, iv_and, iv_add, iv_axor, iv_aadd, iv_eq, iv_ne, iv_lt, iv_gt, iv_le, tru_bl, int0, int1, int2, d1, d2, d3, d4, d5, o_cmp (n := n + 8), decide_true, bne_self_eq_false]
theorem t_dims (B : BasN l bs) (L : Lot l ps) (h1 : 1 ≤ l) (hl : l ≤ 24) (hp : ps ≠ []) (hw : Wf h) : ∃ y10, evS GG (run GG FF (n + 9)) (.ifs (.cmp .ne (.var 3) (.tup .anil)) (.seq (.set 10 (.call 26 (.acons (.var 6) (.acons (.var 3) .anil)))) (.seq (.ifs (.cmp .ne (.bin .add (.attr (.var 9) 4) (.attr (.var 10) 4)) (.attr (.var 6) 4)) (.ret (.bl false)) .skip) (.ifs (.and (.ocmp false (.call 25 (.acons (.var 6) .anil)) (.var 6)) (.cmp .ne (.bin .mul (.int 2) (.bin .sub (.attr (.var 8) 4) (.attr (.var 10) 4))) (.bin .sub (.bin .mul (.int 2) (.bif .len (.acons (.var 7) .anil))) (.var 1)))) (.ret (.bl false)) .skip))) .skip) [x0, some (iv l), x2, some (.tup ((restP l ps).map iv)), x4, x5, some (code l bs), some (.tup (ps.map iv)), some (code ps.length (partB l bs ps)), some (code ps.length (traceB bs ps)), x10, x11, x12] h = .ok (.nx [x0, some (iv l), x2, some (.tup ((restP l ps).map iv)), x4, x5, some (code l bs), some (.tup (ps.map iv)), some (code ps.length (partB l bs ps)), some (code ps.length (traceB bs ps)), y10, x11, x12]) h := by
  have big := line_big
  by_cases hr : restP l ps = []
  · refine ⟨x10, ?_⟩
    simp only [evS, evE, evA, evF, evW, part1, part0, evC, List.getElem?_cons_zero, List.getElem?_cons_succ, putE, List.set_cons_zero, List.set_cons_succ, tgV, putEs, wipeE, walkC, walkF, bnd_ok', lift_some, bndS_nx, bndS_rt, iv_xor, iv_and, iv_add, iv_axor, iv_aadd, iv_eq, iv_ne, iv_lt, iv_gt, iv_le, tru_bl, int0, int1, int2, nil_line, tup_neq0, decide_eq_true hr, Bool.not_true]
  · refine ⟨some (code (restP l ps).length (partB l bs (restP l ps))), ?_⟩
    have d1 := q_parton (n := n) (h := h) B (rest_lot l ps) hl hr hw
    have d2 := q_dual (n := n + 2) (h := h) B h1 hl hw
    have td := trace_dim (ps := ps) B hl
    by_cases hd : dualB l bs = bs
    · have od := own_dim B L hl hd
      have e : (2 * (((partB l bs ps).length : Nat) - ((partB l bs (restP l ps)).length : Nat) : Int)) = ((2 * ps.length : Nat) : Int) - (l : Nat) := by omega
      simp only [evS, evE, evA, evF, evW, part1, part0, evC, List.getElem?_cons_zero, List.getElem?_cons_succ, putE, List.set_cons_zero, List.set_cons_succ, tgV, putEs, wipeE, walkC, walkF, bnd_ok', lift_some, bndS_nx, bndS_rt, iv_xor, iv_and, iv_add, iv_axor, iv_aadd, iv_eq, iv_ne, iv_lt, iv_gt, iv_le, tru_bl, int0, int1, int2, nil_line, tup_neq0, decide_eq_false hr, Bool.not_false, d1, a_dim (n := n + 8), td, decide_true, Bool.not_true, d2, o_cmp (n := n + 8), decide_eq_true hd, bne, beq_iff_eq, o_subI, o_mul2, its_tup.len, iv_mul (Or.inl (show 2 < 18446744073709551616 by decide)), e, int_nes]
      simp
      rfl
    · simp only [evS, evE, evA, evF, evW, part1, part0, evC, List.getElem?_cons_zero, List.getElem?_cons_succ, putE, List.set_cons_zero, List.set_cons_succ, tgV, putEs, wipeE, walkC, walkF, bnd_ok', lift_some, bndS_nx, bndS_rt, iv_xor, iv_and, iv_add, iv_axor, iv_aadd, iv_eq, iv_ne, iv_lt, iv_gt, iv_le, tru_bl, int0, int1, int2, nil_line, tup_neq0, decide_eq_false hr, Bool.not_false, d1, a_dim (n := n + 8), td, decide_true, Bool.not_true, d2, o_cmp (n := n + 8), decide_eq_false hd, bne_self_eq_false]
theorem t_words (B : BasN l bs) (L : Lot l ps) (hl : l ≤ 24) : evS GG (run GG FF (n + 9)) (.seq (.ifs (.cmp .gt (.bif .len (.acons (.var 2) .anil)) (.int 8)) (.ret (.bl true)) .skip) (.seq (.set 4 (.bif .sum (.acons (.fz (.comp [12] (.n 12) (.over (.var 3)) .noe (.bin .shl (.int 1) (.var 12)))) .anil))) (.seq (.set 5 (.fz (.comp [11] (.n 11) (.over (.call 35 (.acons (.var 2) .anil))) (.sm (.cmp .eq (.bin .and (.var 11) (.var 4)) (.int 0))) (.call 41 (.acons (.var 11) (.acons (.var 7) .anil)))))) (.ret (.and (.cmp .eq (.attr (.var 8) 3) (.call 34 (.acons (.var 5) .anil))) (.cmp .eq (.bin .shl (.int 1) (.attr (.var 8) 4)) (.bif .len (.acons (.var 5) .anil)))))))) [x0, some (iv l), some (.tup (bs.map iv)), some (.tup ((restP l ps).map iv)), x4, x5, x6, some (.tup (ps.map iv)), some (code ps.length (partB l bs ps)), x9, x10, x11, x12] h = .ok (.rt (.bl true)) h := by
  have big := line_big
  have hz : ps.length ≤ 24 := Nat.le_trans L.len hl
  by_cases h8 : 8 < bs.length
  · simp only [evS, evE, evA, evF, evW, part1, part0, evC, List.getElem?_cons_zero, List.getElem?_cons_succ, putE, List.set_cons_zero, List.set_cons_succ, tgV, putEs, wipeE, walkC, walkF, bnd_ok', lift_some, bndS_nx, bndS_rt, iv_xor, iv_and, iv_add, iv_axor, iv_aadd, iv_eq, iv_ne, iv_lt, iv_gt, iv_le, tru_bl, int0, int1, int2, its_tup.len, show Vl.int 8 = iv 8 from rfl, decide_eq_true h8]
  · have s0 : evS GG (run GG FF (n + 9)) (.ifs (.cmp .gt (.bif .len (.acons (.var 2) .anil)) (.int 8)) (.ret (.bl true)) .skip) [x0, some (iv l), some (.tup (bs.map iv)), some (.tup ((restP l ps).map iv)), x4, x5, x6, some (.tup (ps.map iv)), some (code ps.length (partB l bs ps)), x9, x10, x11, x12] h = .ok (.nx [x0, some (iv l), some (.tup (bs.map iv)), some (.tup ((restP l ps).map iv)), x4, x5, x6, some (.tup (ps.map iv)), some (code ps.length (partB l bs ps)), x9, x10, x11, x12]) h := by
      simp only [evS, evE, evA, evF, evW, part1, part0, evC, List.getElem?_cons_zero, List.getElem?_cons_succ, putE, List.set_cons_zero, List.set_cons_succ, tgV, putEs, wipeE, walkC, walkF, bnd_ok', lift_some, bndS_nx, bndS_rt, iv_xor, iv_and, iv_add, iv_axor, iv_aadd, iv_eq, iv_ne, iv_lt, iv_gt, iv_le, tru_bl, int0, int1, int2, its_tup.len, show Vl.int 8 = iv 8 from rfl, decide_eq_false h8]
    have R := rest_lot l ps
    have hrl := R.len
    have c1 : evF GG (run GG FF (n + 9)) (.comp [12] (.n 12) (.over (.var 3)) .noe (.bin .shl (.int 1) (.var 12))) [x0, some (iv l), some (.tup (bs.map iv)), some (.tup ((restP l ps).map iv)), x4, x5, x6, some (.tup (ps.map iv)), some (code ps.length (partB l bs ps)), x9, x10, x11, x12] h = .ok (((restP l ps).map (2 ^ ·)).map iv) h := by
      have := comp_its_all (G := GG) (cf := run GG FF (n + 9)) (tg := .n 12) (own := [12]) (el := (.bin .shl (.int 1) (.var 12))) (e := .var 3) (env := [x0, some (iv l), some (.tup (bs.map iv)), some (.tup ((restP l ps).map iv)), x4, x5, x6, some (.tup (ps.map iv)), some (code ps.length (partB l bs ps)), x9, x10, x11, x12]) (h := h) (fun p => iv (2 ^ p)) rfl its_tup (show (restP l ps).length < 1000000 by omega) fun p hp => by
        have := R.lt p hp
        unfold turnC
        simp only [evS, evE, evA, evF, evW, part1, part0, evC, List.getElem?_cons_zero, List.getElem?_cons_succ, putE, List.set_cons_zero, List.set_cons_succ, tgV, putEs, wipeE, walkC, walkF, bnd_ok', lift_some, bndS_nx, bndS_rt, iv_xor, iv_and, iv_add, iv_axor, iv_aadd, iv_eq, iv_ne, iv_lt, iv_gt, iv_le, tru_bl, int0, int1, int2, o_shl (show p ≤ 1000 by omega)]
      rw [List.map_map]
      exact this
    have s1 : evS GG (run GG FF (n + 9)) (.set 4 (.bif .sum (.acons (.fz (.comp [12] (.n 12) (.over (.var 3)) .noe (.bin .shl (.int 1) (.var 12)))) .anil))) [x0, some (iv l), some (.tup (bs.map iv)), some (.tup ((restP l ps).map iv)), x4, x5, x6, some (.tup (ps.map iv)), some (code ps.length (partB l bs ps)), x9, x10, x11, x12] h = .ok (.nx [x0, some (iv l), some (.tup (bs.map iv)), some (.tup ((restP l ps).map iv)), some (iv (xorP (restP l ps))), x5, x6, some (.tup (ps.map iv)), some (code ps.length (partB l bs ps)), x9, x10, x11, x12]) h := by
      have e : bifV .sum h [.lst (((restP l ps).map (2 ^ ·)).map iv)] = some (iv (xorP (restP l ps))) := by
        simp only [bifV, arg1, ofInts, lstOf, ints_iv, sumI_iv, sum_xorP R.nd]
        rfl
      simp only [c1, evS, evE, evA, f_disp, f_cat, f_listof, f_srt, evW, part1, part0, evC, List.getElem?_cons_zero, List.getElem?_cons_succ, putE, List.set_cons_zero, List.set_cons_succ, tgV, putEs, wipeE, walkC, walkF, bnd_ok', lift_some, bndS_nx, bndS_rt, iv_xor, iv_and, iv_add, iv_axor, iv_aadd, iv_eq, iv_ne, iv_lt, iv_gt, iv_le, tru_bl, int0, int1, int2, e]
    have hsl : (sortN (spanF bs [0])).length = 2 ^ bs.length := by
      rw [(sortN_perm _).length_eq, spanF_len, List.length_singleton, Nat.one_mul]
    have hp8 : 2 ^ bs.length ≤ 256 := Nat.le_trans (Nat.pow_le_pow_right (by decide) (show bs.length ≤ 8 by omega)) (by decide)
    have hwl : (wordsIn l bs ps).length ≤ 256 := by
      unfold wordsIn
      have := List.length_filter_le (fun w => decide (w &&& xorP (restP l ps) = 0)) (sortN (spanL bs [0]))
      have e : (sortN (spanL bs [0])).length = 2 ^ bs.length := hsl
      omega
    have c2 : evF GG (run GG FF (n + 9)) (.comp [11] (.n 11) (.over (.call 35 (.acons (.var 2) .anil))) (.sm (.cmp .eq (.bin .and (.var 11) (.var 4)) (.int 0))) (.call 41 (.acons (.var 11) (.acons (.var 7) .anil)))) [x0, some (iv l), some (.tup (bs.map iv)), some (.tup ((restP l ps).map iv)), some (iv (xorP (restP l ps))), x5, x6, some (.tup (ps.map iv)), some (code ps.length (partB l bs ps)), x9, x10, x11, x12] h = .ok (((wordsIn l bs ps).map fun w => cutF 0 w ps).map iv) h := by
      have := comp_its (G := GG) (cf := run GG FF (n + 9)) (tg := .n 11) (own := [11]) (c := (.sm (.cmp .eq (.bin .and (.var 11) (.var 4)) (.int 0)))) (el := (.call 41 (.acons (.var 11) (.acons (.var 7) .anil)))) (e := (.call 35 (.acons (.var 2) .anil))) (env := [x0, some (iv l), some (.tup (bs.map iv)), some (.tup ((restP l ps).map iv)), some (iv (xorP (restP l ps))), x5, x6, some (.tup (ps.map iv)), some (code ps.length (partB l bs ps)), x9, x10, x11, x12]) (h := h) (v := .lst ((sortN (spanF bs [0])).map iv)) (ws := sortN (spanF bs [0])) (fun w => decide (w &&& xorP (restP l ps) = 0)) (fun w => iv (cutF 0 w ps)) (by simp only [evS, evE, evA, evF, evW, part1, part0, evC, List.getElem?_cons_zero, List.getElem?_cons_succ, putE, List.set_cons_zero, List.set_cons_succ, tgV, putEs, wipeE, walkC, walkF, bnd_ok', lift_some, bndS_nx, bndS_rt, iv_xor, iv_and, iv_add, iv_axor, iv_aadd, iv_eq, iv_ne, iv_lt, iv_gt, iv_le, tru_bl, int0, int1, int2, r40 (n := n + 8) bs (show bs.length ≤ 12 by omega)]) its_lst (show (sortN (spanF bs [0])).length < 1000000 by omega) fun w _ => by
        unfold turnC
        simp only [evS, evE, evA, evF, evW, part1, part0, evC, List.getElem?_cons_zero, List.getElem?_cons_succ, putE, List.set_cons_zero, List.set_cons_succ, tgV, putEs, wipeE, walkC, walkF, bnd_ok', lift_some, bndS_nx, bndS_rt, iv_xor, iv_and, iv_add, iv_axor, iv_aadd, iv_eq, iv_ne, iv_lt, iv_gt, iv_le, tru_bl, int0, int1, int2, q_lcut (n := n + 8) w hz]
        cases decide (w &&& xorP (restP l ps) = 0) with
        | true => simp only [evS, evE, evA, evF, evW, part1, part0, evC, List.getElem?_cons_zero, List.getElem?_cons_succ, putE, List.set_cons_zero, List.set_cons_succ, tgV, putEs, wipeE, walkC, walkF, bnd_ok', lift_some, bndS_nx, bndS_rt, iv_xor, iv_and, iv_add, iv_axor, iv_aadd, iv_eq, iv_ne, iv_lt, iv_gt, iv_le, tru_bl, int0, int1, int2, if_true]
        | false => simp only [evS, evE, evA, evF, evW, part1, part0, evC, List.getElem?_cons_zero, List.getElem?_cons_succ, putE, List.set_cons_zero, List.set_cons_succ, tgV, putEs, wipeE, walkC, walkF, bnd_ok', lift_some, bndS_nx, bndS_rt, iv_xor, iv_and, iv_add, iv_axor, iv_aadd, iv_eq, iv_ne, iv_lt, iv_gt, iv_le, tru_bl, int0, int1, int2, Bool.false_eq_true, if_false]
      rw [List.map_map]
      exact this
    have s2 : evS GG (run GG FF (n + 9)) (.set 5 (.fz (.comp [11] (.n 11) (.over (.call 35 (.acons (.var 2) .anil))) (.sm (.cmp .eq (.bin .and (.var 11) (.var 4)) (.int 0))) (.call 41 (.acons (.var 11) (.acons (.var 7) .anil)))))) [x0, some (iv l), some (.tup (bs.map iv)), some (.tup ((restP l ps).map iv)), some (iv (xorP (restP l ps))), x5, x6, some (.tup (ps.map iv)), some (code ps.length (partB l bs ps)), x9, x10, x11, x12] h = .ok (.nx [x0, some (iv l), some (.tup (bs.map iv)), some (.tup ((restP l ps).map iv)), some (iv (xorP (restP l ps))), some (.lst (((wordsIn l bs ps).map fun w => cutF 0 w ps).map iv)), x6, some (.tup (ps.map iv)), some (code ps.length (partB l bs ps)), x9, x10, x11, x12]) h := by
      simp only [c2, evS, evE, evA, f_disp, f_cat, f_listof, f_srt, evW, part1, part0, evC, List.getElem?_cons_zero, List.getElem?_cons_succ, putE, List.set_cons_zero, List.set_cons_succ, tgV, putEs, wipeE, walkC, walkF, bnd_ok', lift_some, bndS_nx, bndS_rt, iv_xor, iv_and, iv_add, iv_axor, iv_aadd, iv_eq, iv_ne, iv_lt, iv_gt, iv_le, tru_bl, int0, int1, int2]
    have q := q_lbasis (n := n + 7) (h := h) (v := .lst (((wordsIn l bs ps).map fun w => cutF 0 w ps).map iv)) its_lst (cuts_lt _ ps hz) (by rw [List.length_map]; omega)
    rw [words_basis B L hl] at q
    have hpl := bas_le (part_basN (l := l) (bs := bs) (ps := ps))
    have wl : (((wordsIn l bs ps).map fun w => cutF 0 w ps)).length = 2 ^ (partB l bs ps).length := by rw [List.length_map, words_len B L hl]
    have s3 : evS GG (run GG FF (n + 9)) (.ret (.and (.cmp .eq (.attr (.var 8) 3) (.call 34 (.acons (.var 5) .anil))) (.cmp .eq (.bin .shl (.int 1) (.attr (.var 8) 4)) (.bif .len (.acons (.var 5) .anil))))) [x0, some (iv l), some (.tup (bs.map iv)), some (.tup ((restP l ps).map iv)), some (iv (xorP (restP l ps))), some (.lst (((wordsIn l bs ps).map fun w => cutF 0 w ps).map iv)), x6, some (.tup (ps.map iv)), some (code ps.length (partB l bs ps)), x9, x10, x11, x12] h = .ok (.rt (.bl true)) h := by
      simp only [evS, evE, evA, evF, evW, part1, part0, evC, List.getElem?_cons_zero, List.getElem?_cons_succ, putE, List.set_cons_zero, List.set_cons_succ, tgV, putEs, wipeE, walkC, walkF, bnd_ok', lift_some, bndS_nx, bndS_rt, iv_xor, iv_and, iv_add, iv_axor, iv_aadd, iv_eq, iv_ne, iv_lt, iv_gt, iv_le, tru_bl, int0, int1, int2, a_bas (n := n + 8), a_dim (n := n + 8), q, tup_eq, decide_true, o_shl (show (partB l bs ps).length ≤ 1000 by omega), its_lst.len, wl]
    rw [ev_seq, s0, bndS_nx, ev_seq, s1, bndS_nx, ev_seq, s2, bndS_nx, s3]
end
end
end Law
set_option Elab.async false
set_option linter.all false
set_option maxRecDepth 100000
set_option maxHeartbeats 1000000
namespace Law
open Mi Gf
section
variable {n : Nat} {h : Hh}
def lens : List Nat := [1, 2, 4, 7, 8, 10, 16, 24]
theorem d_len {p : Nat} (hp : Pail h p) {x1 x2 x3 x4 x5 x6 x7 x8 x9 x10 x11 x12 : Option Vl} : ∃ (l : Nat) (h' : Hh), 1 ≤ l ∧ l ≤ 24 ∧ Drew h h' p ∧ evS GG (run GG FF (n + 9)) (.set 1 (.call 30 (.acons (.var 0) (.acons (.fz (.disp (.acons (.int 1) (.acons (.int 2) (.acons (.int 4) (.acons (.int 7) (.acons (.int 8) (.acons (.int 10) (.acons (.int 16) (.acons (.int 24) .anil)))))))))) .anil)))) [some (.ref p), x1, x2, x3, x4, x5, x6, x7, x8, x9, x10, x11, x12] h = .ok (.nx [some (.ref p), some (iv l), x2, x3, x4, x5, x6, x7, x8, x9, x10, x11, x12]) h' := by
  obtain ⟨l, h', hm, e, d⟩ := q_pick (n := n + 7) (h := h) hp lens (by decide) (by decide)
  have hl : 1 ≤ l ∧ l ≤ 24 := by
    have : ∀ x ∈ lens, 1 ≤ x ∧ x ≤ 24 := by decide
    exact this l hm
  refine ⟨l, h', hl.1, hl.2, d, ?_⟩
  have ea : evA GG (run GG FF (n + 9)) (.acons (.var 0) (.acons (.fz (.disp (.acons (.int 1) (.acons (.int 2) (.acons (.int 4) (.acons (.int 7) (.acons (.int 8) (.acons (.int 10) (.acons (.int 16) (.acons (.int 24) .anil)))))))))) .anil)) [some (.ref p), x1, x2, x3, x4, x5, x6, x7, x8, x9, x10, x11, x12] h = .ok [.ref p, .lst (lens.map iv)] h := rfl
  show bnd (bnd (evA GG (run GG FF (n + 9)) (.acons (.var 0) (.acons (.fz (.disp (.acons (.int 1) (.acons (.int 2) (.acons (.int 4) (.acons (.int 7) (.acons (.int 8) (.acons (.int 10) (.acons (.int 16) (.acons (.int 24) .anil)))))))))) .anil)) _ h) fun xs h => run GG FF (n + 9) 30 xs h) _ = _
  rw [ea, bnd_ok', e, bnd_ok']
  rfl
theorem d_bas {p l : Nat} (h1 : 1 ≤ l) (hl : l ≤ 24) (hp : Pail h p) {x2 x3 x4 x5 x6 x7 x8 x9 x10 x11 x12 : Option Vl} : ∃ (bs : List Nat) (h' : Hh), BasN l bs ∧ Drew h h' p ∧
    bndS (evS GG (run GG FF (n + 9)) (.set 2 (.call 34 (.acons (.call 37 (.acons (.var 0) (.acons (.var 1) (.acons (.var 1) .anil)))) .anil))) [some (.ref p), some (iv l), x2, x3, x4, x5, x6, x7, x8, x9, x10, x11, x12] h) (fun env h => evS GG (run GG FF (n + 9)) (.ifs (.and (.cmp .eq (.bin .mod (.var 1) (.int 2)) (.int 0)) (.cmp .eq (.call 29 (.acons (.var 0) (.acons (.int 2) .anil))) (.int 0))) (.set 2 (.call 39 (.acons (.var 0) (.acons (.var 1) (.acons (.call 29 (.acons (.var 0) (.acons (.int 6) .anil))) .anil))))) .skip) env h) = .ok (.nx [some (.ref p), some (iv l), some (.tup (bs.map iv)), x3, x4, x5, x6, x7, x8, x9, x10, x11, x12]) h' := by
  obtain ⟨ws, ha, hwl, hws, e1, d1⟩ := q_words (n := n + 7) (h := h) hp hl hl
  have q := q_lbasis (n := n + 7) (h := ha) (v := .tup (ws.map iv)) its_tup (fun w hw => Nat.lt_of_lt_of_le (hws w hw) (Nat.pow_le_pow_right (by decide) hl)) (by omega)
  have s1 : evS GG (run GG FF (n + 9)) (.set 2 (.call 34 (.acons (.call 37 (.acons (.var 0) (.acons (.var 1) (.acons (.var 1) .anil)))) .anil))) [some (.ref p), some (iv l), x2, x3, x4, x5, x6, x7, x8, x9, x10, x11, x12] h = .ok (.nx [some (.ref p), some (iv l), some (.tup ((basis ws).map iv)), x3, x4, x5, x6, x7, x8, x9, x10, x11, x12]) ha := by
    simp only [evS, evE, evA, evF, evW, part1, part0, evC, List.getElem?_cons_zero, List.getElem?_cons_succ, putE, List.set_cons_zero, List.set_cons_succ, tgV, putEs, wipeE, walkC, walkF, bnd_ok', lift_some, bndS_nx, bndS_rt, iv_xor, iv_and, iv_add, iv_axor, iv_aadd, iv_eq, iv_ne, iv_lt, iv_gt, iv_le, tru_bl, int0, int1, int2, e1, q]
  rw [s1, bndS_nx]
  by_cases h2 : l % 2 = 0
  · obtain ⟨k, hb, hk, e2, d2⟩ := q_draw (n := n + 8) (h := ha) (t := 2) d1.1 (by decide) (log_small (by decide))
    by_cases hz : k = 0
    · subst hz
      obtain ⟨m, hc, hm, e3, d3⟩ := q_draw (n := n + 8) (h := hb) (t := 6) d2.1 (by decide) (log_small (by decide))
      obtain ⟨bs, hd, B, e4, d4⟩ := q_own (n := n + 5) (h := hc) (k := m) d3.1 h1 hl (by omega)
      refine ⟨bs, hd, B, ((d1.trans d2).trans d3).trans d4, ?_⟩
      simp only [evS, evE, evA, evF, evW, part1, part0, evC, List.getElem?_cons_zero, List.getElem?_cons_succ, putE, List.set_cons_zero, List.set_cons_succ, tgV, putEs, wipeE, walkC, walkF, bnd_ok', lift_some, bndS_nx, bndS_rt, iv_xor, iv_and, iv_add, iv_axor, iv_aadd, iv_eq, iv_ne, iv_lt, iv_gt, iv_le, tru_bl, int0, int1, int2, o_mod (show 0 < 2 by decide), decide_eq_true h2, e2, decide_true, show Vl.int 6 = iv 6 from rfl, e3, e4]
    · refine ⟨basis ws, hb, basN l hws, d1.trans d2, ?_⟩
      simp only [evS, evE, evA, evF, evW, part1, part0, evC, List.getElem?_cons_zero, List.getElem?_cons_succ, putE, List.set_cons_zero, List.set_cons_succ, tgV, putEs, wipeE, walkC, walkF, bnd_ok', lift_some, bndS_nx, bndS_rt, iv_xor, iv_and, iv_add, iv_axor, iv_aadd, iv_eq, iv_ne, iv_lt, iv_gt, iv_le, tru_bl, int0, int1, int2, o_mod (show 0 < 2 by decide), decide_eq_true h2, e2, decide_eq_false hz]
  · refine ⟨basis ws, ha, basN l hws, d1, ?_⟩
    simp only [evS, evE, evA, evF, evW, part1, part0, evC, List.getElem?_cons_zero, List.getElem?_cons_succ, putE, List.set_cons_zero, List.set_cons_succ, tgV, putEs, wipeE, walkC, walkF, bnd_ok', lift_some, bndS_nx, bndS_rt, iv_xor, iv_and, iv_add, iv_axor, iv_aadd, iv_eq, iv_ne, iv_lt, iv_gt, iv_le, tru_bl, int0, int1, int2, o_mod (show 0 < 2 by decide), decide_eq_false h2]
theorem d_lot {p l : Nat} {bs : List Nat} (B : BasN l bs) (h1 : 1 ≤ l) (hl : l ≤ 24) (hp : Pail h p) (hw : Wf h) {x3 x4 x5 x6 x7 x8 x9 x10 x11 x12 : Option Vl} : ∃ (ps : List Nat) (h' : Hh), Lot l ps ∧ ps ≠ [] ∧ Drew h h' p ∧
    evS GG (run GG FF (n + 9)) (.par [6, 7] (.acons (.mk 0 (.acons (.var 1) (.acons (.var 2) .anil))) (.acons (.call 40 (.acons (.var 0) (.acons (.var 1) .anil))) .anil))) [some (.ref p), some (iv l), some (.tup (bs.map iv)), x3, x4, x5, x6, x7, x8, x9, x10, x11, x12] h = .ok (.nx [some (.ref p), some (iv l), some (.tup (bs.map iv)), x3, x4, x5, some (code l bs), some (.tup (ps.map iv)), x8, x9, x10, x11, x12]) h' := by
  obtain ⟨ps, h', L, hne, e, d⟩ := q_lot (n := n + 7) (h := h) hp h1 hl
  refine ⟨ps, h', L, hne, d, ?_⟩
  have m := q_mk (n := n + 4) (h := h) (ws := bs) (told_bas B h1 hl) hw (as := (.acons (.var 1) (.acons (.var 2) .anil))) (env := [some (.ref p), some (iv l), some (.tup (bs.map iv)), x3, x4, x5, x6, x7, x8, x9, x10, x11, x12]) (h0 := h) rfl
  rw [bas_self B.bas] at m
  have e1 : evA GG (run GG FF (n + 9)) (.acons (.call 40 (.acons (.var 0) (.acons (.var 1) .anil))) .anil) [some (.ref p), some (iv l), some (.tup (bs.map iv)), x3, x4, x5, x6, x7, x8, x9, x10, x11, x12] h = .ok [.tup (ps.map iv)] h' := by
    simp only [evS, evE, evA, evF, evW, part1, part0, evC, List.getElem?_cons_zero, List.getElem?_cons_succ, putE, List.set_cons_zero, List.set_cons_succ, tgV, putEs, wipeE, walkC, walkF, bnd_ok', lift_some, bndS_nx, bndS_rt, iv_xor, iv_and, iv_add, iv_axor, iv_aadd, iv_eq, iv_ne, iv_lt, iv_gt, iv_le, tru_bl, int0, int1, int2, e]
  show bnd (bnd (evE GG (run GG FF (n + 9)) (.mk 0 (.acons (.var 1) (.acons (.var 2) .anil))) _ h) fun x h => bnd (evA GG (run GG FF (n + 9)) (.acons (.call 40 (.acons (.var 0) (.acons (.var 1) .anil))) .anil) _ h) fun xs h => R.ok (x :: xs) h) _ = _
  rw [m, bnd_ok', e1, bnd_ok', bnd_ok']
  rfl
theorem q_right {p : Nat} (hp : Pail h p) (hq : Pure h) : ∃ h', run GG FF (n + 10) 42 [.ref p] h = .ok (.bl true) h' ∧ Drew h h' p := by
  obtain ⟨l, ha, h1, hl, d1, s1⟩ := d_len (n := n) (h := h) hp (x1 := none) (x2 := none) (x3 := none) (x4 := none) (x5 := none) (x6 := none) (x7 := none) (x8 := none) (x9 := none) (x10 := none) (x11 := none) (x12 := none)
  obtain ⟨bs, hb, B, d2, s2⟩ := d_bas (n := n) (h := ha) h1 hl d1.1 (x2 := none) (x3 := none) (x4 := none) (x5 := none) (x6 := none) (x7 := none) (x8 := none) (x9 := none) (x10 := none) (x11 := none) (x12 := none)
  have d12 := d1.trans d2
  obtain ⟨ps, hc, L, hne, d3, s3⟩ := d_lot (n := n) (h := hb) B h1 hl d2.1 ((hq.drew d12).wf _) (x3 := none) (x4 := none) (x5 := none) (x6 := none) (x7 := none) (x8 := none) (x9 := none) (x10 := none) (x11 := none) (x12 := none)
  have d := d12.trans d3
  have hw : Wf hc := (hq.drew d).wf _
  obtain ⟨y10, s4⟩ := t_dims (n := n) (h := hc) (x0 := some (.ref p)) (x2 := some (.tup (bs.map iv))) (x4 := none) (x5 := none) (x10 := none) (x11 := none) (x12 := none) B L h1 hl hne hw
  have se : ∀ a b env h, evS GG (run GG FF (n + 9)) (.seq a b) env h = bndS (evS GG (run GG FF (n + 9)) a env h) fun env h => evS GG (run GG FF (n + 9)) b env h := fun _ _ _ _ => rfl
  have ass : ∀ (r : R Oc) (f g : Env → Hh → R Oc), bndS r (fun env h => bndS (f env h) g) = bndS (bndS r f) g := fun r f g => by
    cases r with
    | ok o h => cases o <;> rfl
    | exc c p h => rfl
    | bad => rfl
  have e : evS GG (run GG FF (n + 9)) (.seq (.set 1 (.call 30 (.acons (.var 0) (.acons (.fz (.disp (.acons (.int 1) (.acons (.int 2) (.acons (.int 4) (.acons (.int 7) (.acons (.int 8) (.acons (.int 10) (.acons (.int 16) (.acons (.int 24) .anil)))))))))) .anil)))) (.seq (.set 2 (.call 34 (.acons (.call 37 (.acons (.var 0) (.acons (.var 1) (.acons (.var 1) .anil)))) .anil))) (.seq (.ifs (.and (.cmp .eq (.bin .mod (.var 1) (.int 2)) (.int 0)) (.cmp .eq (.call 29 (.acons (.var 0) (.acons (.int 2) .anil))) (.int 0))) (.set 2 (.call 39 (.acons (.var 0) (.acons (.var 1) (.acons (.call 29 (.acons (.var 0) (.acons (.int 6) .anil))) .anil))))) .skip) (.seq (.par [6, 7] (.acons (.mk 0 (.acons (.var 1) (.acons (.var 2) .anil))) (.acons (.call 40 (.acons (.var 0) (.acons (.var 1) .anil))) .anil))) (.seq (.set 3 (.bif .tuple (.acons (.fz (.comp [12] (.n 12) (.range (.acons (.var 1) .anil)) (.sm (.cmp .notin (.var 12) (.var 7))) (.var 12))) .anil))) (.seq (.par [8, 9] (.acons (.call 26 (.acons (.var 6) (.acons (.var 7) .anil))) (.acons (.call 27 (.acons (.var 6) (.acons (.var 7) .anil))) .anil))) (.seq (.ifs (.or (.cmp .ne (.tup (.acons (.attr (.var 8) 2) (.acons (.attr (.var 9) 2) .anil))) (.tup (.acons (.bif .len (.acons (.var 7) .anil)) (.acons (.bif .len (.acons (.var 7) .anil)) .anil)))) (.cmp .ne (.attr (.var 9) 3) (.call 34 (.acons (.fz (.comp [11] (.n 11) (.over (.var 2)) .noe (.call 41 (.acons (.var 11) (.acons (.var 7) .anil))))) .anil)))) (.ret (.bl false)) .skip) (.seq (.ifs (.cmp .ne (.attr (.var 8) 3) (.call 36 (.acons (.bif .len (.acons (.var 7) .anil)) (.acons (.call 34 (.acons (.fz (.comp [11] (.n 11) (.over (.call 36 (.acons (.var 1) (.acons (.var 2) .anil)))) .noe (.call 41 (.acons (.var 11) (.acons (.var 7) .anil))))) .anil)) .anil)))) (.ret (.bl false)) .skip) (.seq (.ifs (.or (.ocmp true (.call 25 (.acons (.var 8) .anil)) (.call 27 (.acons (.call 25 (.acons (.var 6) .anil)) (.acons (.var 7) .anil)))) (.ocmp true (.call 25 (.acons (.var 9) .anil)) (.call 26 (.acons (.call 25 (.acons (.var 6) .anil)) (.acons (.var 7) .anil))))) (.ret (.bl false)) .skip) (.seq (.ifs (.cmp .ne (.var 3) (.tup .anil)) (.seq (.set 10 (.call 26 (.acons (.var 6) (.acons (.var 3) .anil)))) (.seq (.ifs (.cmp .ne (.bin .add (.attr (.var 9) 4) (.attr (.var 10) 4)) (.attr (.var 6) 4)) (.ret (.bl false)) .skip) (.ifs (.and (.ocmp false (.call 25 (.acons (.var 6) .anil)) (.var 6)) (.cmp .ne (.bin .mul (.int 2) (.bin .sub (.attr (.var 8) 4) (.attr (.var 10) 4))) (.bin .sub (.bin .mul (.int 2) (.bif .len (.acons (.var 7) .anil))) (.var 1)))) (.ret (.bl false)) .skip))) .skip) (.seq (.ifs (.cmp .gt (.bif .len (.acons (.var 2) .anil)) (.int 8)) (.ret (.bl true)) .skip) (.seq (.set 4 (.bif .sum (.acons (.fz (.comp [12] (.n 12) (.over (.var 3)) .noe (.bin .shl (.int 1) (.var 12)))) .anil))) (.seq (.set 5 (.fz (.comp [11] (.n 11) (.over (.call 35 (.acons (.var 2) .anil))) (.sm (.cmp .eq (.bin .and (.var 11) (.var 4)) (.int 0))) (.call 41 (.acons (.var 11) (.acons (.var 7) .anil)))))) (.ret (.and (.cmp .eq (.attr (.var 8) 3) (.call 34 (.acons (.var 5) .anil))) (.cmp .eq (.bin .shl (.int 1) (.attr (.var 8) 4)) (.bif .len (.acons (.var 5) .anil)))))))))))))))))) [some (.ref p), none, none, none, none, none, none, none, none, none, none, none, none] h = .ok (.rt (.bl true)) hc := by
    rw [se, s1, bndS_nx, se]
    show bndS (evS GG (run GG FF (n + 9)) (.set 2 (.call 34 (.acons (.call 37 (.acons (.var 0) (.acons (.var 1) (.acons (.var 1) .anil)))) .anil))) _ _) (fun env h => bndS (evS GG (run GG FF (n + 9)) (.ifs (.and (.cmp .eq (.bin .mod (.var 1) (.int 2)) (.int 0)) (.cmp .eq (.call 29 (.acons (.var 0) (.acons (.int 2) .anil))) (.int 0))) (.set 2 (.call 39 (.acons (.var 0) (.acons (.var 1) (.acons (.call 29 (.acons (.var 0) (.acons (.int 6) .anil))) .anil))))) .skip) env h) fun env h => evS GG (run GG FF (n + 9)) (.seq (.par [6, 7] (.acons (.mk 0 (.acons (.var 1) (.acons (.var 2) .anil))) (.acons (.call 40 (.acons (.var 0) (.acons (.var 1) .anil))) .anil))) (.seq (.set 3 (.bif .tuple (.acons (.fz (.comp [12] (.n 12) (.range (.acons (.var 1) .anil)) (.sm (.cmp .notin (.var 12) (.var 7))) (.var 12))) .anil))) (.seq (.par [8, 9] (.acons (.call 26 (.acons (.var 6) (.acons (.var 7) .anil))) (.acons (.call 27 (.acons (.var 6) (.acons (.var 7) .anil))) .anil))) (.seq (.ifs (.or (.cmp .ne (.tup (.acons (.attr (.var 8) 2) (.acons (.attr (.var 9) 2) .anil))) (.tup (.acons (.bif .len (.acons (.var 7) .anil)) (.acons (.bif .len (.acons (.var 7) .anil)) .anil)))) (.cmp .ne (.attr (.var 9) 3) (.call 34 (.acons (.fz (.comp [11] (.n 11) (.over (.var 2)) .noe (.call 41 (.acons (.var 11) (.acons (.var 7) .anil))))) .anil)))) (.ret (.bl false)) .skip) (.seq (.ifs (.cmp .ne (.attr (.var 8) 3) (.call 36 (.acons (.bif .len (.acons (.var 7) .anil)) (.acons (.call 34 (.acons (.fz (.comp [11] (.n 11) (.over (.call 36 (.acons (.var 1) (.acons (.var 2) .anil)))) .noe (.call 41 (.acons (.var 11) (.acons (.var 7) .anil))))) .anil)) .anil)))) (.ret (.bl false)) .skip) (.seq (.ifs (.or (.ocmp true (.call 25 (.acons (.var 8) .anil)) (.call 27 (.acons (.call 25 (.acons (.var 6) .anil)) (.acons (.var 7) .anil)))) (.ocmp true (.call 25 (.acons (.var 9) .anil)) (.call 26 (.acons (.call 25 (.acons (.var 6) .anil)) (.acons (.var 7) .anil))))) (.ret (.bl false)) .skip) (.seq (.ifs (.cmp .ne (.var 3) (.tup .anil)) (.seq (.set 10 (.call 26 (.acons (.var 6) (.acons (.var 3) .anil)))) (.seq (.ifs (.cmp .ne (.bin .add (.attr (.var 9) 4) (.attr (.var 10) 4)) (.attr (.var 6) 4)) (.ret (.bl false)) .skip) (.ifs (.and (.ocmp false (.call 25 (.acons (.var 6) .anil)) (.var 6)) (.cmp .ne (.bin .mul (.int 2) (.bin .sub (.attr (.var 8) 4) (.attr (.var 10) 4))) (.bin .sub (.bin .mul (.int 2) (.bif .len (.acons (.var 7) .anil))) (.var 1)))) (.ret (.bl false)) .skip))) .skip) (.seq (.ifs (.cmp .gt (.bif .len (.acons (.var 2) .anil)) (.int 8)) (.ret (.bl true)) .skip) (.seq (.set 4 (.bif .sum (.acons (.fz (.comp [12] (.n 12) (.over (.var 3)) .noe (.bin .shl (.int 1) (.var 12)))) .anil))) (.seq (.set 5 (.fz (.comp [11] (.n 11) (.over (.call 35 (.acons (.var 2) .anil))) (.sm (.cmp .eq (.bin .and (.var 11) (.var 4)) (.int 0))) (.call 41 (.acons (.var 11) (.acons (.var 7) .anil)))))) (.ret (.and (.cmp .eq (.attr (.var 8) 3) (.call 34 (.acons (.var 5) .anil))) (.cmp .eq (.bin .shl (.int 1) (.attr (.var 8) 4)) (.bif .len (.acons (.var 5) .anil))))))))))))))) env h) = _
    rw [ass, s2, bndS_nx, se, s3, bndS_nx, se, t_rest hl, bndS_nx, se, t_both (n := n) B L hl hne hw, bndS_nx, se, t_trace (n := n) B L hl, bndS_nx, se, t_part (n := n) B L hl hw, bndS_nx, se, t_duals (n := n) B L h1 hl hne hw, bndS_nx, se, s4, bndS_nx]
    exact t_words (n := n) B L hl
  exact ⟨hc, run_rt2 (d := f42) rfl rfl e (by rw [d.len]; exact Nat.le_refl _), d⟩
end
end Law
set_option Elab.async false
set_option linter.all false
set_option maxRecDepth 100000
set_option maxHeartbeats 1000000
namespace Law
open Mi Gf
section
variable {n : Nat} {h : Hh}
theorem Pure.vat {h' : Hh} (hq : Pure h) (e : ∃ ws : List Nat, h' = h ++ [.lst (ws.map iv)]) : Pure h' := by
  obtain ⟨ws, rfl⟩ := e
  exact hq.app ws
theorem spots (ns : List Int) (hn : ns.length ≤ 63) : ∃ k, k ≤ 63 ∧ (∀ (cf : CF) (x1 x2 x3 x4 x5 : Option Vl), evW GG cf (.range (.acons (.bif .max2 (.acons (.int 1) (.acons (.bif .min2 (.acons (.int 4) (.acons (.bif .len (.acons (.var 0) .anil)) .anil))) .anil))) .anil)) [some (.scr (ns.map .int)), x1, x2, x3, x4, x5] h = .ok (.its ((List.range k).map iv)) h) := by
  have e1 : bifV .len h [.scr (ns.map .int)] = some (iv ns.length) := scr_len ns
  have e3 : bifV .min2 h [iv 4, iv ns.length] = some (iv (min 4 ns.length)) := o_min
  have e2 : bifV .max2 h [iv 1, iv (min 4 ns.length)] = some (iv (max 1 (min 4 ns.length))) := by
    show some (Vl.int (if ((min 4 ns.length : Nat) : Int) > ((1 : Nat) : Int) then ((min 4 ns.length : Nat) : Int) else ((1 : Nat) : Int))) = some (Vl.int ((max 1 (min 4 ns.length) : Nat) : Int))
    congr 2
    split <;> omega
  refine ⟨max 1 (min 4 ns.length), by omega, fun cf x1 x2 x3 x4 x5 => ?_⟩
  exact range_ev (by omega) (by simp only [evS, evE, evA, evF, evW, part1, part0, evC, List.getElem?_cons_zero, List.getElem?_cons_succ, putE, List.set_cons_zero, List.set_cons_succ, tgV, putEs, wipeE, walkC, walkF, bnd_ok', lift_some, bndS_nx, bndS_rt, iv_xor, iv_and, iv_add, iv_axor, iv_aadd, iv_eq, iv_ne, iv_lt, iv_gt, iv_le, tru_bl, int0, int1, int2, e1, show Vl.int 4 = iv 4 from rfl, e3, e2])
theorem turns {p : Nat} (hp : Pail h p) (hq : Pure h) {x0 x1 x2 x3 x5 : Option Vl} : ∃ y5 h', Drew h h' p ∧ evS GG (run GG FF (n + 10)) (.fors (.n 5) (.range (.acons (.int 6) .anil)) (.ifs (.not (.call 42 (.acons (.var 4) .anil))) (.ret (.bl false)) .skip)) [x0, x1, x2, x3, some (.ref p), x5] h = .ok (.nx [x0, x1, x2, x3, some (.ref p), y5]) h' := by
  obtain ⟨env', h', e, y5, rfl, d⟩ := for_pre (G := GG) (cf := run GG FF (n + 10)) (tg := .n 5) (b := (.ifs (.not (.call 42 (.acons (.var 4) .anil))) (.ret (.bl false)) .skip)) (g := iv) (xs := List.range 6) (env := [x0, x1, x2, x3, some (.ref p), x5]) (h := h)
    (fun pre env h' => ∃ y5 : Option Vl, env = [x0, x1, x2, x3, some (.ref p), y5] ∧ Drew h h' p) ⟨x5, rfl, Drew.refl hp⟩
    (fun pre x post ex env h' i => by
      obtain ⟨y5, rfl, d⟩ := i
      obtain ⟨h2, e2, d2⟩ := q_right (n := n) (h := h') d.1 (hq.drew d)
      refine ⟨_, _, h2, rfl, ?_, some (iv x), rfl, d.trans d2⟩
      simp only [evS, evE, evA, evF, evW, part1, part0, evC, List.getElem?_cons_zero, List.getElem?_cons_succ, putE, List.set_cons_zero, List.set_cons_succ, tgV, putEs, wipeE, walkC, walkF, bnd_ok', lift_some, bndS_nx, bndS_rt, iv_xor, iv_and, iv_add, iv_axor, iv_aadd, iv_eq, iv_ne, iv_lt, iv_gt, iv_le, tru_bl, int0, int1, int2, e2, Bool.not_true])
  refine ⟨y5, h', d, ?_⟩
  rw [ev_fors]
  have q : ∀ env, evW GG (run GG FF (n + 10)) (.range (.acons (.int 6) .anil)) env h = .ok (.its ((List.range 6).map iv)) h := fun _ => rfl
  rw [q, bnd_ok']
  exact e
theorem pails (ns : List Int) (hn : ns.length ≤ 63) (hq : Pure h) : ∃ x1 x4 x5 h', Pure h' ∧ evS GG (run GG FF (n + 10)) (.fors (.n 1) (.range (.acons (.bif .max2 (.acons (.int 1) (.acons (.bif .min2 (.acons (.int 4) (.acons (.bif .len (.acons (.var 0) .anil)) .anil))) .anil))) .anil)) (.seq (.set 4 (.call 28 (.acons (.var 0) (.acons (.var 1) .anil)))) (.fors (.n 5) (.range (.acons (.int 6) .anil)) (.ifs (.not (.call 42 (.acons (.var 4) .anil))) (.ret (.bl false)) .skip)))) [some (.scr (ns.map .int)), none, none, none, none, none] h = .ok (.nx [some (.scr (ns.map .int)), x1, none, none, x4, x5]) h' := by
  obtain ⟨k, hk, ek⟩ := spots (h := h) ns hn
  obtain ⟨env', h', e, x1, x4, x5, rfl, d⟩ := for_pre (G := GG) (cf := run GG FF (n + 10)) (tg := .n 1) (b := (.seq (.set 4 (.call 28 (.acons (.var 0) (.acons (.var 1) .anil)))) (.fors (.n 5) (.range (.acons (.int 6) .anil)) (.ifs (.not (.call 42 (.acons (.var 4) .anil))) (.ret (.bl false)) .skip)))) (g := iv) (xs := List.range k) (env := [some (.scr (ns.map .int)), none, none, none, none, none]) (h := h)
    (fun pre env h' => ∃ x1 x4 x5 : Option Vl, env = [some (.scr (ns.map .int)), x1, none, none, x4, x5] ∧ Pure h') ⟨none, none, none, rfl, hq⟩
    (fun pre x post ex env h' i => by
      obtain ⟨x1, x4, x5, rfl, q⟩ := i
      obtain ⟨h1, e1, p1, o1⟩ := q_vat (n := n + 9) (h := h') ns x
      have q1 : Pure h1 := q.vat o1
      obtain ⟨y5, h2, d2, e2⟩ := turns (n := n) p1 q1 (x0 := some (.scr (ns.map .int))) (x1 := some (iv x)) (x2 := none) (x3 := none) (x5 := x5)
      refine ⟨_, _, h2, rfl, ?_, some (iv x), some (.ref h'.length), y5, rfl, q1.drew d2⟩
      have s1 : evS GG (run GG FF (n + 10)) (.set 4 (.call 28 (.acons (.var 0) (.acons (.var 1) .anil)))) [some (.scr (ns.map .int)), some (iv x), none, none, x4, x5] h' = .ok (.nx [some (.scr (ns.map .int)), some (iv x), none, none, some (.ref h'.length), x5]) h1 := by
        simp only [evS, evE, evA, evF, evW, part1, part0, evC, List.getElem?_cons_zero, List.getElem?_cons_succ, putE, List.set_cons_zero, List.set_cons_succ, tgV, putEs, wipeE, walkC, walkF, bnd_ok', lift_some, bndS_nx, bndS_rt, iv_xor, iv_and, iv_add, iv_axor, iv_aadd, iv_eq, iv_ne, iv_lt, iv_gt, iv_le, tru_bl, int0, int1, int2, e1]
      show evS GG (run GG FF (n + 10)) (.seq (.set 4 (.call 28 (.acons (.var 0) (.acons (.var 1) .anil)))) (.fors (.n 5) (.range (.acons (.int 6) .anil)) (.ifs (.not (.call 42 (.acons (.var 4) .anil))) (.ret (.bl false)) .skip))) [some (.scr (ns.map .int)), some (iv x), none, none, x4, x5] h' = _
      rw [ev_seq, s1, bndS_nx, e2])
  refine ⟨x1, x4, x5, h', d, ?_⟩
  rw [ev_fors, ek, bnd_ok']
  exact e
theorem at_part {c t : Ex} {env : Env} {l : Nat} {bs ps : List Nat} (B : BasN l bs) (L : Lot l ps) (hl : l ≤ 24) (hp : ps ≠ []) (hw : Wf h) (e1 : evE GG (run GG FF (n + 9)) c env h = .ok (code l bs) h) (e2 : evE GG (run GG FF (n + 9)) t env h = .ok (.tup (ps.map iv)) h) :
    evE GG (run GG FF (n + 9)) (.attr (.call 26 (.acons c (.acons t .anil))) 3) env h = .ok (.tup ((partB l bs ps).map iv)) h := by
  show bnd (bnd (bnd (evE GG (run GG FF (n + 9)) c env h) fun x h => bnd (bnd (evE GG (run GG FF (n + 9)) t env h) fun x h => R.ok [x] h) fun xs h => R.ok (x :: xs) h) fun xs h => run GG FF (n + 9) 26 xs h) (attrR GG (run GG FF (n + 9)) 3) = _
  rw [e1, bnd_ok', e2, bnd_ok', bnd_ok', bnd_ok', q_parton (n := n) B L hl hp hw, bnd_ok']
  exact a_bas (n := n + 8)
theorem at_trace {c t : Ex} {env : Env} {l : Nat} {bs ps : List Nat} (B : BasN l bs) (L : Lot l ps) (hl : l ≤ 24) (hp : ps ≠ []) (hw : Wf h) (e1 : evE GG (run GG FF (n + 9)) c env h = .ok (code l bs) h) (e2 : evE GG (run GG FF (n + 9)) t env h = .ok (.tup (ps.map iv)) h) :
    evE GG (run GG FF (n + 9)) (.attr (.call 27 (.acons c (.acons t .anil))) 3) env h = .ok (.tup ((traceB bs ps).map iv)) h := by
  show bnd (bnd (bnd (evE GG (run GG FF (n + 9)) c env h) fun x h => bnd (bnd (evE GG (run GG FF (n + 9)) t env h) fun x h => R.ok [x] h) fun xs h => R.ok (x :: xs) h) fun xs h => run GG FF (n + 9) 27 xs h) (attrR GG (run GG FF (n + 9)) 3) = _
  rw [e1, bnd_ok', e2, bnd_ok', bnd_ok', bnd_ok', q_traceon (n := n + 2) B L hl hp hw, bnd_ok']
  exact a_bas (n := n + 8)
theorem mk_at {a b : Ex} {env : Env} {l : Nat} {ws : List Nat} (T : Told l ws) (hw : Wf h) (e1 : evE GG (run GG FF (n + 9)) a env h = .ok (iv l) h) (e2 : evE GG (run GG FF (n + 9)) b env h = .ok (.tup (ws.map iv)) h) :
    evE GG (run GG FF (n + 9)) (.mk 0 (.acons a (.acons b .anil))) env h = .ok (code l (basis ws)) h := by
  refine q_mk (n := n + 4) T hw ?_
  show bnd (evE GG (run GG FF (n + 9)) a env h) (fun x h => bnd (bnd (evE GG (run GG FF (n + 9)) b env h) fun x h => R.ok [x] h) fun xs h => R.ok (x :: xs) h) = _
  rw [e1, bnd_ok', e2, bnd_ok', bnd_ok']
def w8 : List Nat := [15, 51, 85, 150]
theorem T8 : Told 8 w8 := ⟨by decide, by decide, by decide, by decide⟩
theorem T3 : Told 3 [5, 3] := ⟨by decide, by decide, by decide, by decide⟩
theorem T5 : Told 5 [24] := ⟨by decide, by decide, by decide, by decide⟩
theorem T53 : Told 5 [24, 3] := ⟨by decide, by decide, by decide, by decide⟩
theorem Ls {l : Nat} {ps : List Nat} (h1 : ps.Pairwise (· < ·)) (h2 : ∀ p ∈ ps, p < l) : Lot l ps := ⟨h1, h2⟩
def due4 : List Vl := [.tup ([15].map iv), .tup ([9, 5, 3].map iv), .tup (([] : List Nat).map iv), .tup ([4, 2, 1].map iv)]
theorem end1 (hw : Wf h) {x0 x1 x3 x4 x5 : Option Vl} : evS GG (run GG FF (n + 9)) (.set 2 (.mk 0 (.acons (.int 8) (.acons (.tup (.acons (.int 15) (.acons (.int 51) (.acons (.int 85) (.acons (.int 150) .anil))))) .anil)))) [x0, x1, none, x3, x4, x5] h = .ok (.nx [x0, x1, some (code 8 (basis w8)), x3, x4, x5]) h := by
  have e := mk_at (n := n) (h := h) (a := (.int 8)) (b := (.tup (.acons (.int 15) (.acons (.int 51) (.acons (.int 85) (.acons (.int 150) .anil)))))) (env := [x0, x1, none, x3, x4, x5]) T8 hw rfl rfl
  show bnd (evE GG (run GG FF (n + 9)) (.mk 0 (.acons (.int 8) (.acons (.tup (.acons (.int 15) (.acons (.int 51) (.acons (.int 85) (.acons (.int 150) .anil))))) .anil))) [x0, x1, none, x3, x4, x5] h) _ = _
  rw [e]
  rfl
theorem end2 (hw : Wf h) {x0 x1 x4 x5 : Option Vl} : evS GG (run GG FF (n + 9)) (.set 3 (.fz (.disp (.acons (.attr (.call 26 (.acons (.var 2) (.acons (.tup (.acons (.int 0) (.acons (.int 1) (.acons (.int 2) (.acons (.int 3) .anil))))) .anil))) 3) (.acons (.attr (.call 27 (.acons (.var 2) (.acons (.tup (.acons (.int 0) (.acons (.int 1) (.acons (.int 2) (.acons (.int 3) .anil))))) .anil))) 3) (.acons (.attr (.call 26 (.acons (.var 2) (.acons (.tup (.acons (.int 0) (.acons (.int 1) (.acons (.int 7) .anil)))) .anil))) 3) (.acons (.attr (.call 27 (.acons (.var 2) (.acons (.tup (.acons (.int 0) (.acons (.int 1) (.acons (.int 7) .anil)))) .anil))) 3) .anil))))))) [x0, x1, some (code 8 (basis w8)), none, x4, x5] h = .ok (.nx [x0, x1, some (code 8 (basis w8)), some (.lst due4), x4, x5]) h := by
  have p1 := at_part (n := n) (h := h) (c := .var 2) (t := (.tup (.acons (.int 0) (.acons (.int 1) (.acons (.int 2) (.acons (.int 3) .anil)))))) (env := [x0, x1, some (code 8 (basis w8)), none, x4, x5]) (ps := [0, 1, 2, 3]) T8.basN (Ls (by decide) (by decide)) (by decide) (by decide) hw rfl rfl
  have p2 := at_trace (n := n) (h := h) (c := .var 2) (t := (.tup (.acons (.int 0) (.acons (.int 1) (.acons (.int 2) (.acons (.int 3) .anil)))))) (env := [x0, x1, some (code 8 (basis w8)), none, x4, x5]) (ps := [0, 1, 2, 3]) T8.basN (Ls (by decide) (by decide)) (by decide) (by decide) hw rfl rfl
  have p3 := at_part (n := n) (h := h) (c := .var 2) (t := (.tup (.acons (.int 0) (.acons (.int 1) (.acons (.int 7) .anil))))) (env := [x0, x1, some (code 8 (basis w8)), none, x4, x5]) (ps := [0, 1, 7]) T8.basN (Ls (by decide) (by decide)) (by decide) (by decide) hw rfl rfl
  have p4 := at_trace (n := n) (h := h) (c := .var 2) (t := (.tup (.acons (.int 0) (.acons (.int 1) (.acons (.int 7) .anil))))) (env := [x0, x1, some (code 8 (basis w8)), none, x4, x5]) (ps := [0, 1, 7]) T8.basN (Ls (by decide) (by decide)) (by decide) (by decide) hw rfl rfl
  rw [show partB 8 (basis w8) [0, 1, 2, 3] = [15] by decide +kernel] at p1
  rw [show traceB (basis w8) [0, 1, 2, 3] = [9, 5, 3] by decide +kernel] at p2
  rw [show partB 8 (basis w8) [0, 1, 7] = [] by decide +kernel] at p3
  rw [show traceB (basis w8) [0, 1, 7] = [4, 2, 1] by decide +kernel] at p4
  have h4 : decide (due4.length ≤ line) = true := decide_eq_true (by show 4 ≤ line; decide)
  have ev : evF GG (run GG FF (n + 9)) (.disp (.acons (.attr (.call 26 (.acons (.var 2) (.acons (.tup (.acons (.int 0) (.acons (.int 1) (.acons (.int 2) (.acons (.int 3) .anil))))) .anil))) 3) (.acons (.attr (.call 27 (.acons (.var 2) (.acons (.tup (.acons (.int 0) (.acons (.int 1) (.acons (.int 2) (.acons (.int 3) .anil))))) .anil))) 3) (.acons (.attr (.call 26 (.acons (.var 2) (.acons (.tup (.acons (.int 0) (.acons (.int 1) (.acons (.int 7) .anil)))) .anil))) 3) (.acons (.attr (.call 27 (.acons (.var 2) (.acons (.tup (.acons (.int 0) (.acons (.int 1) (.acons (.int 7) .anil)))) .anil))) 3) .anil))))) [x0, x1, some (code 8 (basis w8)), none, x4, x5] h = .ok due4 h := by
    rw [f_disp]
    have ea : evA GG (run GG FF (n + 9)) (.acons (.attr (.call 26 (.acons (.var 2) (.acons (.tup (.acons (.int 0) (.acons (.int 1) (.acons (.int 2) (.acons (.int 3) .anil))))) .anil))) 3) (.acons (.attr (.call 27 (.acons (.var 2) (.acons (.tup (.acons (.int 0) (.acons (.int 1) (.acons (.int 2) (.acons (.int 3) .anil))))) .anil))) 3) (.acons (.attr (.call 26 (.acons (.var 2) (.acons (.tup (.acons (.int 0) (.acons (.int 1) (.acons (.int 7) .anil)))) .anil))) 3) (.acons (.attr (.call 27 (.acons (.var 2) (.acons (.tup (.acons (.int 0) (.acons (.int 1) (.acons (.int 7) .anil)))) .anil))) 3) .anil)))) [x0, x1, some (code 8 (basis w8)), none, x4, x5] h = .ok due4 h := by
      show bnd (evE GG (run GG FF (n + 9)) (.attr (.call 26 (.acons (.var 2) (.acons (.tup (.acons (.int 0) (.acons (.int 1) (.acons (.int 2) (.acons (.int 3) .anil))))) .anil))) 3) [x0, x1, some (code 8 (basis w8)), none, x4, x5] h) (fun x h => bnd (bnd (evE GG (run GG FF (n + 9)) (.attr (.call 27 (.acons (.var 2) (.acons (.tup (.acons (.int 0) (.acons (.int 1) (.acons (.int 2) (.acons (.int 3) .anil))))) .anil))) 3) [x0, x1, some (code 8 (basis w8)), none, x4, x5] h) fun x h => bnd (bnd (evE GG (run GG FF (n + 9)) (.attr (.call 26 (.acons (.var 2) (.acons (.tup (.acons (.int 0) (.acons (.int 1) (.acons (.int 7) .anil)))) .anil))) 3) [x0, x1, some (code 8 (basis w8)), none, x4, x5] h) fun x h => bnd (bnd (evE GG (run GG FF (n + 9)) (.attr (.call 27 (.acons (.var 2) (.acons (.tup (.acons (.int 0) (.acons (.int 1) (.acons (.int 7) .anil)))) .anil))) 3) [x0, x1, some (code 8 (basis w8)), none, x4, x5] h) fun x h => R.ok [x] h) fun xs h => R.ok (x :: xs) h) fun xs h => R.ok (x :: xs) h) fun xs h => R.ok (x :: xs) h) = _
      rw [p1, bnd_ok', p2, bnd_ok', p3, bnd_ok', p4, bnd_ok', bnd_ok', bnd_ok', bnd_ok']
      rfl
    rw [ea, bnd_ok', h4]
  show bnd (bnd (evF GG (run GG FF (n + 9)) (.disp (.acons (.attr (.call 26 (.acons (.var 2) (.acons (.tup (.acons (.int 0) (.acons (.int 1) (.acons (.int 2) (.acons (.int 3) .anil))))) .anil))) 3) (.acons (.attr (.call 27 (.acons (.var 2) (.acons (.tup (.acons (.int 0) (.acons (.int 1) (.acons (.int 2) (.acons (.int 3) .anil))))) .anil))) 3) (.acons (.attr (.call 26 (.acons (.var 2) (.acons (.tup (.acons (.int 0) (.acons (.int 1) (.acons (.int 7) .anil)))) .anil))) 3) (.acons (.attr (.call 27 (.acons (.var 2) (.acons (.tup (.acons (.int 0) (.acons (.int 1) (.acons (.int 7) .anil)))) .anil))) 3) .anil))))) _ h) _) _ = _
  rw [ev]
  rfl
theorem end3 {x0 x1 x2 x4 x5 : Option Vl} {cf : CF} : evS GG cf (.ifs (.cmp .ne (.var 3) (.fz (.disp (.acons (.tup (.acons (.int 15) .anil)) (.acons (.tup (.acons (.int 9) (.acons (.int 5) (.acons (.int 3) .anil)))) (.acons (.tup .anil) (.acons (.tup (.acons (.int 4) (.acons (.int 2) (.acons (.int 1) .anil)))) .anil))))))) (.ret (.bl false)) .skip) [x0, x1, x2, some (.lst due4), x4, x5] h = .ok (.nx [x0, x1, x2, some (.lst due4), x4, x5]) h := by
  have c : evE GG cf (.cmp .ne (.var 3) (.fz (.disp (.acons (.tup (.acons (.int 15) .anil)) (.acons (.tup (.acons (.int 9) (.acons (.int 5) (.acons (.int 3) .anil)))) (.acons (.tup .anil) (.acons (.tup (.acons (.int 4) (.acons (.int 2) (.acons (.int 1) .anil)))) .anil))))))) [x0, x1, x2, some (.lst due4), x4, x5] h = .ok (.bl false) h := rfl
  rw [ev_ifs, c]
  rfl
theorem end4 (hw : Wf h) {x0 x1 x2 x3 x4 x5 : Option Vl} : evS GG (run GG FF (n + 9)) (.ifs (.cmp .ne (.attr (.call 26 (.acons (.mk 0 (.acons (.int 3) (.acons (.tup (.acons (.int 5) (.acons (.int 3) .anil))) .anil))) (.acons (.tup (.acons (.int 1) (.acons (.int 2) .anil))) .anil))) 3) (.tup (.acons (.int 3) .anil))) (.ret (.bl false)) .skip) [x0, x1, x2, x3, x4, x5] h = .ok (.nx [x0, x1, x2, x3, x4, x5]) h := by
  have m := mk_at (n := n) (h := h) (a := (.int 3)) (b := (.tup (.acons (.int 5) (.acons (.int 3) .anil)))) (env := [x0, x1, x2, x3, x4, x5]) T3 hw rfl rfl
  have p := at_part (n := n) (h := h) (t := (.tup (.acons (.int 1) (.acons (.int 2) .anil)))) (ps := [1, 2]) T3.basN (Ls (by decide) (by decide)) (by decide) (by decide) hw m rfl
  rw [show partB 3 (basis [5, 3]) [1, 2] = [3] by decide +kernel] at p
  rw [ev_ifs]
  show bnd (bnd (evE GG (run GG FF (n + 9)) (.attr (.call 26 (.acons (.mk 0 (.acons (.int 3) (.acons (.tup (.acons (.int 5) (.acons (.int 3) .anil))) .anil))) (.acons (.tup (.acons (.int 1) (.acons (.int 2) .anil))) .anil))) 3) [x0, x1, x2, x3, x4, x5] h) _) _ = _
  rw [p]
  rfl
theorem end5 (hw : Wf h) {x0 x1 x2 x3 x4 x5 : Option Vl} : evS GG (run GG FF (n + 9)) (.ret (.and (.cmp .eq (.attr (.call 27 (.acons (.mk 0 (.acons (.int 5) (.acons (.tup (.acons (.int 24) .anil)) .anil))) (.acons (.tup (.acons (.int 4) .anil)) .anil))) 3) (.tup (.acons (.int 1) .anil))) (.cmp .eq (.attr (.call 26 (.acons (.mk 0 (.acons (.int 5) (.acons (.tup (.acons (.int 24) (.acons (.int 3) .anil))) .anil))) (.acons (.tup (.acons (.int 1) (.acons (.int 3) (.acons (.int 4) .anil)))) .anil))) 3) (.tup (.acons (.int 6) .anil))))) [x0, x1, x2, x3, x4, x5] h = .ok (.rt (.bl true)) h := by
  have m1 := mk_at (n := n) (h := h) (a := (.int 5)) (b := (.tup (.acons (.int 24) .anil))) (env := [x0, x1, x2, x3, x4, x5]) T5 hw rfl rfl
  have p1 := at_trace (n := n) (h := h) (t := (.tup (.acons (.int 4) .anil))) (ps := [4]) T5.basN (Ls (by decide) (by decide)) (by decide) (by decide) hw m1 rfl
  rw [show traceB (basis [24]) [4] = [1] by decide +kernel] at p1
  have m2 := mk_at (n := n) (h := h) (a := (.int 5)) (b := (.tup (.acons (.int 24) (.acons (.int 3) .anil)))) (env := [x0, x1, x2, x3, x4, x5]) T53 hw rfl rfl
  have p2 := at_part (n := n) (h := h) (t := (.tup (.acons (.int 1) (.acons (.int 3) (.acons (.int 4) .anil))))) (ps := [1, 3, 4]) T53.basN (Ls (by decide) (by decide)) (by decide) (by decide) hw m2 rfl
  rw [show partB 5 (basis [24, 3]) [1, 3, 4] = [6] by decide +kernel] at p2
  have c1 : evE GG (run GG FF (n + 9)) (.cmp .eq (.attr (.call 27 (.acons (.mk 0 (.acons (.int 5) (.acons (.tup (.acons (.int 24) .anil)) .anil))) (.acons (.tup (.acons (.int 4) .anil)) .anil))) 3) (.tup (.acons (.int 1) .anil))) [x0, x1, x2, x3, x4, x5] h = .ok (.bl true) h := by
    show bnd (evE GG (run GG FF (n + 9)) (.attr (.call 27 (.acons (.mk 0 (.acons (.int 5) (.acons (.tup (.acons (.int 24) .anil)) .anil))) (.acons (.tup (.acons (.int 4) .anil)) .anil))) 3) [x0, x1, x2, x3, x4, x5] h) _ = _
    rw [p1]
    rfl
  have c2 : evE GG (run GG FF (n + 9)) (.cmp .eq (.attr (.call 26 (.acons (.mk 0 (.acons (.int 5) (.acons (.tup (.acons (.int 24) (.acons (.int 3) .anil))) .anil))) (.acons (.tup (.acons (.int 1) (.acons (.int 3) (.acons (.int 4) .anil)))) .anil))) 3) (.tup (.acons (.int 6) .anil))) [x0, x1, x2, x3, x4, x5] h = .ok (.bl true) h := by
    show bnd (evE GG (run GG FF (n + 9)) (.attr (.call 26 (.acons (.mk 0 (.acons (.int 5) (.acons (.tup (.acons (.int 24) (.acons (.int 3) .anil))) .anil))) (.acons (.tup (.acons (.int 1) (.acons (.int 3) (.acons (.int 4) .anil)))) .anil))) 3) [x0, x1, x2, x3, x4, x5] h) _ = _
    rw [p2]
    rfl
  show bnd (bnd (evE GG (run GG FF (n + 9)) (.cmp .eq (.attr (.call 27 (.acons (.mk 0 (.acons (.int 5) (.acons (.tup (.acons (.int 24) .anil)) .anil))) (.acons (.tup (.acons (.int 4) .anil)) .anil))) 3) (.tup (.acons (.int 1) .anil))) [x0, x1, x2, x3, x4, x5] h) fun x h => match x with
    | .bl true => evE GG (run GG FF (n + 9)) (.cmp .eq (.attr (.call 26 (.acons (.mk 0 (.acons (.int 5) (.acons (.tup (.acons (.int 24) (.acons (.int 3) .anil))) .anil))) (.acons (.tup (.acons (.int 1) (.acons (.int 3) (.acons (.int 4) .anil)))) .anil))) 3) (.tup (.acons (.int 6) .anil))) [x0, x1, x2, x3, x4, x5] h
    | .bl false => R.ok (Vl.bl false) h
    | _ => .bad) _ = _
  rw [c1, bnd_ok']
  dsimp only
  rw [c2]
  rfl
end
theorem hlaw : ∀ ns : List Int, ns.length ≤ 63 → ∃ h', run GG FF (20 + 1) 43 [.scr (ns.map .int)] [] = .ok (.bl true) h' := by
  intro ns hn
  obtain ⟨x1, x4, x5, h', q, e⟩ := pails (n := 10) (h := []) ns hn (fun _ h => (nomatch h))
  have hw : Wf h' := q.wf _
  have e2 : evS GG (run GG FF 20) (.seq (.fors (.n 1) (.range (.acons (.bif .max2 (.acons (.int 1) (.acons (.bif .min2 (.acons (.int 4) (.acons (.bif .len (.acons (.var 0) .anil)) .anil))) .anil))) .anil)) (.seq (.set 4 (.call 28 (.acons (.var 0) (.acons (.var 1) .anil)))) (.fors (.n 5) (.range (.acons (.int 6) .anil)) (.ifs (.not (.call 42 (.acons (.var 4) .anil))) (.ret (.bl false)) .skip)))) (.seq (.set 2 (.mk 0 (.acons (.int 8) (.acons (.tup (.acons (.int 15) (.acons (.int 51) (.acons (.int 85) (.acons (.int 150) .anil))))) .anil)))) (.seq (.set 3 (.fz (.disp (.acons (.attr (.call 26 (.acons (.var 2) (.acons (.tup (.acons (.int 0) (.acons (.int 1) (.acons (.int 2) (.acons (.int 3) .anil))))) .anil))) 3) (.acons (.attr (.call 27 (.acons (.var 2) (.acons (.tup (.acons (.int 0) (.acons (.int 1) (.acons (.int 2) (.acons (.int 3) .anil))))) .anil))) 3) (.acons (.attr (.call 26 (.acons (.var 2) (.acons (.tup (.acons (.int 0) (.acons (.int 1) (.acons (.int 7) .anil)))) .anil))) 3) (.acons (.attr (.call 27 (.acons (.var 2) (.acons (.tup (.acons (.int 0) (.acons (.int 1) (.acons (.int 7) .anil)))) .anil))) 3) .anil))))))) (.seq (.ifs (.cmp .ne (.var 3) (.fz (.disp (.acons (.tup (.acons (.int 15) .anil)) (.acons (.tup (.acons (.int 9) (.acons (.int 5) (.acons (.int 3) .anil)))) (.acons (.tup .anil) (.acons (.tup (.acons (.int 4) (.acons (.int 2) (.acons (.int 1) .anil)))) .anil))))))) (.ret (.bl false)) .skip) (.seq (.ifs (.cmp .ne (.attr (.call 26 (.acons (.mk 0 (.acons (.int 3) (.acons (.tup (.acons (.int 5) (.acons (.int 3) .anil))) .anil))) (.acons (.tup (.acons (.int 1) (.acons (.int 2) .anil))) .anil))) 3) (.tup (.acons (.int 3) .anil))) (.ret (.bl false)) .skip) (.ret (.and (.cmp .eq (.attr (.call 27 (.acons (.mk 0 (.acons (.int 5) (.acons (.tup (.acons (.int 24) .anil)) .anil))) (.acons (.tup (.acons (.int 4) .anil)) .anil))) 3) (.tup (.acons (.int 1) .anil))) (.cmp .eq (.attr (.call 26 (.acons (.mk 0 (.acons (.int 5) (.acons (.tup (.acons (.int 24) (.acons (.int 3) .anil))) .anil))) (.acons (.tup (.acons (.int 1) (.acons (.int 3) (.acons (.int 4) .anil)))) .anil))) 3) (.tup (.acons (.int 6) .anil)))))))))) [some (.scr (ns.map .int)), none, none, none, none, none] [] = .ok (.rt (.bl true)) h' := by
    rw [ev_seq, e, bndS_nx, ev_seq, end1 (n := 11) hw, bndS_nx, ev_seq, end2 (n := 11) hw, bndS_nx, ev_seq, end3, bndS_nx, ev_seq, end4 (n := 11) hw, bndS_nx, end5 (n := 11) hw]
  rw [run_eq (d := f43) rfl rfl]
  show ∃ h', endF true 0 (evS GG (run GG FF 20) (.seq (.fors (.n 1) (.range (.acons (.bif .max2 (.acons (.int 1) (.acons (.bif .min2 (.acons (.int 4) (.acons (.bif .len (.acons (.var 0) .anil)) .anil))) .anil))) .anil)) (.seq (.set 4 (.call 28 (.acons (.var 0) (.acons (.var 1) .anil)))) (.fors (.n 5) (.range (.acons (.int 6) .anil)) (.ifs (.not (.call 42 (.acons (.var 4) .anil))) (.ret (.bl false)) .skip)))) (.seq (.set 2 (.mk 0 (.acons (.int 8) (.acons (.tup (.acons (.int 15) (.acons (.int 51) (.acons (.int 85) (.acons (.int 150) .anil))))) .anil)))) (.seq (.set 3 (.fz (.disp (.acons (.attr (.call 26 (.acons (.var 2) (.acons (.tup (.acons (.int 0) (.acons (.int 1) (.acons (.int 2) (.acons (.int 3) .anil))))) .anil))) 3) (.acons (.attr (.call 27 (.acons (.var 2) (.acons (.tup (.acons (.int 0) (.acons (.int 1) (.acons (.int 2) (.acons (.int 3) .anil))))) .anil))) 3) (.acons (.attr (.call 26 (.acons (.var 2) (.acons (.tup (.acons (.int 0) (.acons (.int 1) (.acons (.int 7) .anil)))) .anil))) 3) (.acons (.attr (.call 27 (.acons (.var 2) (.acons (.tup (.acons (.int 0) (.acons (.int 1) (.acons (.int 7) .anil)))) .anil))) 3) .anil))))))) (.seq (.ifs (.cmp .ne (.var 3) (.fz (.disp (.acons (.tup (.acons (.int 15) .anil)) (.acons (.tup (.acons (.int 9) (.acons (.int 5) (.acons (.int 3) .anil)))) (.acons (.tup .anil) (.acons (.tup (.acons (.int 4) (.acons (.int 2) (.acons (.int 1) .anil)))) .anil))))))) (.ret (.bl false)) .skip) (.seq (.ifs (.cmp .ne (.attr (.call 26 (.acons (.mk 0 (.acons (.int 3) (.acons (.tup (.acons (.int 5) (.acons (.int 3) .anil))) .anil))) (.acons (.tup (.acons (.int 1) (.acons (.int 2) .anil))) .anil))) 3) (.tup (.acons (.int 3) .anil))) (.ret (.bl false)) .skip) (.ret (.and (.cmp .eq (.attr (.call 27 (.acons (.mk 0 (.acons (.int 5) (.acons (.tup (.acons (.int 24) .anil)) .anil))) (.acons (.tup (.acons (.int 4) .anil)) .anil))) 3) (.tup (.acons (.int 1) .anil))) (.cmp .eq (.attr (.call 26 (.acons (.mk 0 (.acons (.int 5) (.acons (.tup (.acons (.int 24) (.acons (.int 3) .anil))) .anil))) (.acons (.tup (.acons (.int 1) (.acons (.int 3) (.acons (.int 4) .anil)))) .anil))) 3) (.tup (.acons (.int 6) .anil)))))))))) [some (.scr (ns.map .int)), none, none, none, none, none] []) = _
  rw [e2]
  cases h' with
  | nil => exact ⟨[], rfl⟩
  | cons o r => exact ⟨[], rfl⟩
end Law
set_option Elab.async false
set_option linter.all false
set_option maxRecDepth 100000
set_option maxHeartbeats 0
namespace Law
open PySem PySem.Spec PyProof.Rows L2 Mi PySem.W
end Law
open PySem PySem.Spec PyProof.Rows L2 Mi Law PySem.W
theorem PySem.Challenge.cw_ownchecks_k07_whole_parts_and_traces_holds : PySem.Challenge.rw_ownchecks_k07_whole_parts_and_traces.Holds := by
  w_on; o_law; k_head; (case hw => w_witness2)
  k_fill
  refine L2.walk_of (l := PySem.Challenge.rw_ownchecks_k07_whole_parts_and_traces) (n := 63) (k := 2 * 20 + 1) (x := "script") (CX := fun w => L2.CX PySem.Challenge.rw_ownchecks_k07_whole_parts_and_traces.prog w) (sp := fun w => spLaw _) rfl (by decide) rfl ⟨rfl, by decide, by decide⟩ (fun w h Y => PySem.W.kIn_of Y) ?F (fun _ _ a ns hl ho hS => ⟨a, ns, rfl, hl, ho, hS, fun _ => rfl⟩) (fun _ _ _ _ _ h => by obtain ⟨_, _, _, _, _, _, _, _, _, _, _, _, z⟩ := h; exact z.elim)
  case F =>
    intro w mg fa h KX G hmg
    refine law_endC (tab := tab) (cs := cs) (kr := krs) (ats := ats) (n := 20) (lf := 43) KX G hmg (fun f t e => AllSc.get f t sall e) (show tab[43]? = _ from rfl) ⟨_, s43⟩ ?mA ?mC ?mN hlaw
    case mA =>
      refine' Exists.intro [_] (And.intro ?mK (And.intro ?mO ?mT))
      case mK =>
        show AllKF _ _ [⟨Str.ofString "Code", [(Str.ofString "own_basis", 0), (Str.ofString "own_length", 1)], 2⟩]
        refine' And.intro (KF.mk ?a1 ?a2 (L2.SCls.mk ?b1 ?b2 ?b3 ?b4) ?a3 ?a4 ?a5 ?a6 ?a7 ?a9 ?a8 ?t1 ?t2 ?t3 ?t4 ?t5 ?u0 ?u1 ?u2 ?u3 ?u4 ?u5 ?sl) ?_
        (case a1 => k_is)
        (case a2 => k_is)
        (case b1 => k_is)
        (case b2 => k_is)
        (case b3 => k_is)
        (case b4 => k_is)
        (case a3 => k_is)
        (case a4 => k_is)
        (case a5 => k_is)
        (case a6 => k_is)
        (case a7 => k_is)
        (case a9 => k_is)
        (case a8 => k_is)
        (case t1 => k_is)
        (case t2 => k_is)
        (case t3 => k_is)
        (case t4 => k_is)
        (case t5 => k_is)
        (case u0 => k_is)
        (case u1 => k_is)
        (case u2 => k_is)
        (case u3 => k_is)
        (case u4 => k_is)
        (case u5 => k_is)
        (case sl =>
          show AllSl _ _ [(Str.ofString "own_basis", 0), (Str.ofString "own_length", 1)]
          refine' And.intro (Exists.intro _ (L2.Slt.mk ?za ?zb ?zc ?zd ?ze (by decide))) ?_
          (case za => k_is)
          (case zb => k_is)
          (case zc => k_is)
          (case zd => k_is)
          (case ze => k_is)
          refine' And.intro (Exists.intro _ (L2.Slt.mk ?za ?zb ?zc ?zd ?ze (by decide))) ?_
          (case za => k_is)
          (case zb => k_is)
          (case zc => k_is)
          (case zd => k_is)
          (case ze => k_is)
          exact True.intro)
        exact True.intro
      case mO =>
        intro c d C E h1 h2
        match c, d, h1, h2 with
        | 0, 0, h1, h2 =>
          cases Option.some.inj h1
          cases Option.some.inj h2
          exact kit_self
        | c + 1, _, h1, _ => cases h1
        | 0, d + 1, _, h2 => cases h2
      case mT =>
        show AllDc _ _ [⟨f0, Str.ofString "is_whole", Str.ofString "is_whole", topS 9, .mod⟩, ⟨f1, Str.ofString "is_from", Str.ofString "is_from", topS 10, .mod⟩, ⟨f2, Str.ofString "is_word_in", Str.ofString "is_word_in", topS 11, .mod⟩, ⟨f3, Str.ofString "are_words_in", Str.ofString "are_words_in", topS 12, .mod⟩, ⟨f4, Str.ofString "are_ascending", Str.ofString "are_ascending", topS 13, .mod⟩, ⟨f5, Str.ofString "head_of", Str.ofString "head_of", topS 14, .mod⟩, ⟨f6, Str.ofString "has_bit", Str.ofString "has_bit", topS 15, .mod⟩, ⟨f7, Str.ofString "word_in", Str.ofString "word_in", topS 16, .mod⟩, ⟨f8, Str.ofString "remainder_in", Str.ofString "remainder_in", topS 17, .mod⟩, ⟨f9, Str.ofString "with_word", Str.ofString "with_word", topS 18, .mod⟩, ⟨f10, Str.ofString "basis_in", Str.ofString "basis_in", topS 19, .mod⟩, ⟨f11, Str.ofString "heads_in", Str.ofString "heads_in", topS 20, .mod⟩, ⟨f12, Str.ofString "free_in", Str.ofString "free_in", topS 21, .mod⟩, ⟨f13, Str.ofString "checks_in", Str.ofString "checks_in", topS 22, .mod⟩, ⟨f14, Str.ofString "meet_in", Str.ofString "meet_in", topS 23, .mod⟩, ⟨f15, Str.ofString "require_length", Str.ofString "require_length", topS 24, .mod⟩, ⟨f16, Str.ofString "require_words", Str.ofString "require_words", topS 25, .mod⟩, ⟨f17, Str.ofString "cut_in", Str.ofString "cut_in", topS 28, .mod⟩, ⟨f18, Str.ofString "trace_in", Str.ofString "trace_in", topS 29, .mod⟩, ⟨f19, Str.ofString "within_in", Str.ofString "within_in", topS 30, .mod⟩, ⟨f20, Str.ofString "part_in", Str.ofString "part_in", topS 31, .mod⟩, ⟨f21, Str.ofString "made_of", Str.ofString "made_of", topS 32, .mod⟩, ⟨f22, Str.ofString "require_code", Str.ofString "require_code", topS 33, .mod⟩, ⟨f23, Str.ofString "is_lot_in", Str.ofString "is_lot_in", topS 34, .mod⟩, ⟨f24, Str.ofString "require_lot", Str.ofString "require_lot", topS 35, .mod⟩, ⟨f25, Str.ofString "dual", Str.ofString "dual", topS 36, .mod⟩, ⟨f26, Str.ofString "part_on", Str.ofString "part_on", topS 37, .mod⟩, ⟨f27, Str.ofString "trace_on", Str.ofString "trace_on", topS 38, .mod⟩, ⟨f28, Str.ofString "_law_vat", Str.ofString "_law_vat", topS 40, .mod⟩, ⟨f29, Str.ofString "_law_draw", Str.ofString "_law_draw", topS 41, .mod⟩, ⟨f30, Str.ofString "_law_pick", Str.ofString "_law_pick", topS 42, .mod⟩, ⟨f31, Str.ofString "_law_bits", Str.ofString "_law_bits", topS 43, .mod⟩, ⟨f32, Str.ofString "_law_sum", Str.ofString "_law_sum", topS 44, .mod⟩, ⟨f33, Str.ofString "_law_rest", Str.ofString "_law_rest", topS 45, .mod⟩, ⟨f34, Str.ofString "_law_basis", Str.ofString "_law_basis", topS 46, .mod⟩, ⟨f35, Str.ofString "_law_span", Str.ofString "_law_span", topS 47, .mod⟩, ⟨f36, Str.ofString "_law_dual", Str.ofString "_law_dual", topS 48, .mod⟩, ⟨f37, Str.ofString "_law_words", Str.ofString "_law_words", topS 49, .mod⟩, ⟨f38, Str.ofString "_law_beside", Str.ofString "_law_beside", topS 50, .mod⟩, ⟨f39, Str.ofString "_law_own", Str.ofString "_law_own", topS 51, .mod⟩, ⟨f40, Str.ofString "_law_lot", Str.ofString "_law_lot", topS 52, .mod⟩, ⟨f41, Str.ofString "_law_cut", Str.ofString "_law_cut", topS 53, .mod⟩, ⟨f42, Str.ofString "_law_right", Str.ofString "_law_right", topS 54, .mod⟩, ⟨f43, Str.ofString "law", Str.ofString "law", topS 55, .mod⟩, ⟨f44, Str.ofString "__init__", Str.ofString "Code.__init__", inClass (topS 27) 1, .ini 0⟩, ⟨f45, Str.ofString "length", Str.ofString "Code.length", inClass (topS 27) 2, .prp 0⟩, ⟨f46, Str.ofString "basis", Str.ofString "Code.basis", inClass (topS 27) 3, .prp 0⟩, ⟨f47, Str.ofString "dimension", Str.ofString "Code.dimension", inClass (topS 27) 4, .prp 0⟩, ⟨f48, Str.ofString "__eq__", Str.ofString "Code.__eq__", inClass (topS 27) 5, .eqm 0⟩, ⟨f49, Str.ofString "__str__", Str.ofString "Code.__str__", inClass (topS 27) 6, .oth 0⟩]
        refine' And.intro (Exists.intro _ (dkMod ?ns (Exists.intro _ (fun_mk ?l ?c ?k)))) ?_; (case ns => k_is); (case l => k_is); (case c => k_is); (case k => k_is)
        refine' And.intro (Exists.intro _ (dkMod ?ns (Exists.intro _ (fun_mk ?l ?c ?k)))) ?_; (case ns => k_is); (case l => k_is); (case c => k_is); (case k => k_is)
        refine' And.intro (Exists.intro _ (dkMod ?ns (Exists.intro _ (fun_mk ?l ?c ?k)))) ?_; (case ns => k_is); (case l => k_is); (case c => k_is); (case k => k_is)
        refine' And.intro (Exists.intro _ (dkMod ?ns (Exists.intro _ (fun_mk ?l ?c ?k)))) ?_; (case ns => k_is); (case l => k_is); (case c => k_is); (case k => k_is)
        refine' And.intro (Exists.intro _ (dkMod ?ns (Exists.intro _ (fun_mk ?l ?c ?k)))) ?_; (case ns => k_is); (case l => k_is); (case c => k_is); (case k => k_is)
        refine' And.intro (Exists.intro _ (dkMod ?ns (Exists.intro _ (fun_mk ?l ?c ?k)))) ?_; (case ns => k_is); (case l => k_is); (case c => k_is); (case k => k_is)
        refine' And.intro (Exists.intro _ (dkMod ?ns (Exists.intro _ (fun_mk ?l ?c ?k)))) ?_; (case ns => k_is); (case l => k_is); (case c => k_is); (case k => k_is)
        refine' And.intro (Exists.intro _ (dkMod ?ns (Exists.intro _ (fun_mk ?l ?c ?k)))) ?_; (case ns => k_is); (case l => k_is); (case c => k_is); (case k => k_is)
        refine' And.intro (Exists.intro _ (dkMod ?ns (Exists.intro _ (fun_mk ?l ?c ?k)))) ?_; (case ns => k_is); (case l => k_is); (case c => k_is); (case k => k_is)
        refine' And.intro (Exists.intro _ (dkMod ?ns (Exists.intro _ (fun_mk ?l ?c ?k)))) ?_; (case ns => k_is); (case l => k_is); (case c => k_is); (case k => k_is)
        refine' And.intro (Exists.intro _ (dkMod ?ns (Exists.intro _ (fun_mk ?l ?c ?k)))) ?_; (case ns => k_is); (case l => k_is); (case c => k_is); (case k => k_is)
        refine' And.intro (Exists.intro _ (dkMod ?ns (Exists.intro _ (fun_mk ?l ?c ?k)))) ?_; (case ns => k_is); (case l => k_is); (case c => k_is); (case k => k_is)
        refine' And.intro (Exists.intro _ (dkMod ?ns (Exists.intro _ (fun_mk ?l ?c ?k)))) ?_; (case ns => k_is); (case l => k_is); (case c => k_is); (case k => k_is)
        refine' And.intro (Exists.intro _ (dkMod ?ns (Exists.intro _ (fun_mk ?l ?c ?k)))) ?_; (case ns => k_is); (case l => k_is); (case c => k_is); (case k => k_is)
        refine' And.intro (Exists.intro _ (dkMod ?ns (Exists.intro _ (fun_mk ?l ?c ?k)))) ?_; (case ns => k_is); (case l => k_is); (case c => k_is); (case k => k_is)
        refine' And.intro (Exists.intro _ (dkMod ?ns (Exists.intro _ (fun_mk ?l ?c ?k)))) ?_; (case ns => k_is); (case l => k_is); (case c => k_is); (case k => k_is)
        refine' And.intro (Exists.intro _ (dkMod ?ns (Exists.intro _ (fun_mk ?l ?c ?k)))) ?_; (case ns => k_is); (case l => k_is); (case c => k_is); (case k => k_is)
        refine' And.intro (Exists.intro _ (dkMod ?ns (Exists.intro _ (fun_mk ?l ?c ?k)))) ?_; (case ns => k_is); (case l => k_is); (case c => k_is); (case k => k_is)
        refine' And.intro (Exists.intro _ (dkMod ?ns (Exists.intro _ (fun_mk ?l ?c ?k)))) ?_; (case ns => k_is); (case l => k_is); (case c => k_is); (case k => k_is)
        refine' And.intro (Exists.intro _ (dkMod ?ns (Exists.intro _ (fun_mk ?l ?c ?k)))) ?_; (case ns => k_is); (case l => k_is); (case c => k_is); (case k => k_is)
        refine' And.intro (Exists.intro _ (dkMod ?ns (Exists.intro _ (fun_mk ?l ?c ?k)))) ?_; (case ns => k_is); (case l => k_is); (case c => k_is); (case k => k_is)
        refine' And.intro (Exists.intro _ (dkMod ?ns (Exists.intro _ (fun_mk ?l ?c ?k)))) ?_; (case ns => k_is); (case l => k_is); (case c => k_is); (case k => k_is)
        refine' And.intro (Exists.intro _ (dkMod ?ns (Exists.intro _ (fun_mk ?l ?c ?k)))) ?_; (case ns => k_is); (case l => k_is); (case c => k_is); (case k => k_is)
        refine' And.intro (Exists.intro _ (dkMod ?ns (Exists.intro _ (fun_mk ?l ?c ?k)))) ?_; (case ns => k_is); (case l => k_is); (case c => k_is); (case k => k_is)
        refine' And.intro (Exists.intro _ (dkMod ?ns (Exists.intro _ (fun_mk ?l ?c ?k)))) ?_; (case ns => k_is); (case l => k_is); (case c => k_is); (case k => k_is)
        refine' And.intro (Exists.intro _ (dkMod ?ns (Exists.intro _ (fun_mk ?l ?c ?k)))) ?_; (case ns => k_is); (case l => k_is); (case c => k_is); (case k => k_is)
        refine' And.intro (Exists.intro _ (dkMod ?ns (Exists.intro _ (fun_mk ?l ?c ?k)))) ?_; (case ns => k_is); (case l => k_is); (case c => k_is); (case k => k_is)
        refine' And.intro (Exists.intro _ (dkMod ?ns (Exists.intro _ (fun_mk ?l ?c ?k)))) ?_; (case ns => k_is); (case l => k_is); (case c => k_is); (case k => k_is)
        refine' And.intro (Exists.intro _ (dkMod ?ns (Exists.intro _ (fun_mk ?l ?c ?k)))) ?_; (case ns => k_is); (case l => k_is); (case c => k_is); (case k => k_is)
        refine' And.intro (Exists.intro _ (dkMod ?ns (Exists.intro _ (fun_mk ?l ?c ?k)))) ?_; (case ns => k_is); (case l => k_is); (case c => k_is); (case k => k_is)
        refine' And.intro (Exists.intro _ (dkMod ?ns (Exists.intro _ (fun_mk ?l ?c ?k)))) ?_; (case ns => k_is); (case l => k_is); (case c => k_is); (case k => k_is)
        refine' And.intro (Exists.intro _ (dkMod ?ns (Exists.intro _ (fun_mk ?l ?c ?k)))) ?_; (case ns => k_is); (case l => k_is); (case c => k_is); (case k => k_is)
        refine' And.intro (Exists.intro _ (dkMod ?ns (Exists.intro _ (fun_mk ?l ?c ?k)))) ?_; (case ns => k_is); (case l => k_is); (case c => k_is); (case k => k_is)
        refine' And.intro (Exists.intro _ (dkMod ?ns (Exists.intro _ (fun_mk ?l ?c ?k)))) ?_; (case ns => k_is); (case l => k_is); (case c => k_is); (case k => k_is)
        refine' And.intro (Exists.intro _ (dkMod ?ns (Exists.intro _ (fun_mk ?l ?c ?k)))) ?_; (case ns => k_is); (case l => k_is); (case c => k_is); (case k => k_is)
        refine' And.intro (Exists.intro _ (dkMod ?ns (Exists.intro _ (fun_mk ?l ?c ?k)))) ?_; (case ns => k_is); (case l => k_is); (case c => k_is); (case k => k_is)
        refine' And.intro (Exists.intro _ (dkMod ?ns (Exists.intro _ (fun_mk ?l ?c ?k)))) ?_; (case ns => k_is); (case l => k_is); (case c => k_is); (case k => k_is)
        refine' And.intro (Exists.intro _ (dkMod ?ns (Exists.intro _ (fun_mk ?l ?c ?k)))) ?_; (case ns => k_is); (case l => k_is); (case c => k_is); (case k => k_is)
        refine' And.intro (Exists.intro _ (dkMod ?ns (Exists.intro _ (fun_mk ?l ?c ?k)))) ?_; (case ns => k_is); (case l => k_is); (case c => k_is); (case k => k_is)
        refine' And.intro (Exists.intro _ (dkMod ?ns (Exists.intro _ (fun_mk ?l ?c ?k)))) ?_; (case ns => k_is); (case l => k_is); (case c => k_is); (case k => k_is)
        refine' And.intro (Exists.intro _ (dkMod ?ns (Exists.intro _ (fun_mk ?l ?c ?k)))) ?_; (case ns => k_is); (case l => k_is); (case c => k_is); (case k => k_is)
        refine' And.intro (Exists.intro _ (dkMod ?ns (Exists.intro _ (fun_mk ?l ?c ?k)))) ?_; (case ns => k_is); (case l => k_is); (case c => k_is); (case k => k_is)
        refine' And.intro (Exists.intro _ (dkMod ?ns (Exists.intro _ (fun_mk ?l ?c ?k)))) ?_; (case ns => k_is); (case l => k_is); (case c => k_is); (case k => k_is)
        refine' And.intro (Exists.intro _ (dkMod ?ns (Exists.intro _ (fun_mk ?l ?c ?k)))) ?_; (case ns => k_is); (case l => k_is); (case c => k_is); (case k => k_is)
        refine' And.intro (Exists.intro _ (dkIni rfl (L2.Mk.mk ?m1 ?m2 ?m3 ?m4) (Exists.intro _ (fun_mk ?l ?c ?k)))) ?_; (case m1 => k_is); (case m2 => k_is); (case m3 => k_is); (case m4 => k_is); (case l => k_is); (case c => k_is); (case k => k_is)
        refine' And.intro (Exists.intro _ (dkPrp rfl ?m1 ?m2 ?m3 ?m4 (Exists.intro _ (fun_mk ?l ?c ?k)))) ?_; (case m1 => k_is); (case m2 => k_is); (case m3 => k_is); (case m4 => k_is); (case l => k_is); (case c => k_is); (case k => k_is)
        refine' And.intro (Exists.intro _ (dkPrp rfl ?m1 ?m2 ?m3 ?m4 (Exists.intro _ (fun_mk ?l ?c ?k)))) ?_; (case m1 => k_is); (case m2 => k_is); (case m3 => k_is); (case m4 => k_is); (case l => k_is); (case c => k_is); (case k => k_is)
        refine' And.intro (Exists.intro _ (dkPrp rfl ?m1 ?m2 ?m3 ?m4 (Exists.intro _ (fun_mk ?l ?c ?k)))) ?_; (case m1 => k_is); (case m2 => k_is); (case m3 => k_is); (case m4 => k_is); (case l => k_is); (case c => k_is); (case k => k_is)
        refine' And.intro (Exists.intro _ (dkEqm rfl ?m1 ?m2 (Exists.intro _ (fun_mk ?l ?c ?k)))) ?_; (case m1 => k_is); (case m2 => k_is); (case l => k_is); (case c => k_is); (case k => k_is)
        refine' And.intro (Exists.intro _ (dkOth rfl ?m1 (Exists.intro _ (fun_mk ?l ?c ?k)))) ?_; (case m1 => k_is); (case l => k_is); (case c => k_is); (case k => k_is)
        exact True.intro
    case mC =>
      show AllV _ cs
      unfold cs
      refine' And.intro (CV.int ?ns) ?_; (case ns => k_is)
      refine' And.intro (CV.int ?ns) ?_; (case ns => k_is)
      exact True.intro
    case mN =>
      show AllN _ bNames
      unfold bNames
      repeat (refine' And.intro ?ns ?_; (case ns => k_is))
      exact True.intro
