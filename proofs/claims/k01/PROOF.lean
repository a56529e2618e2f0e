import PyProof.Rows.All
import Wide.All
import OpenK.AllK
import Wide.FinOn
import HandS.ForMost
import HandS.Exc
import HandS.ExcOwn
import HandS.WordsExc
import HandS.SlotsVar
import HandS.Wide
import HandS.WideBits
import HandS.TupAny
import HandS.TupMul
import HandS.SortInts
import HandS.SortKw
import HandS.SlotsOwn
import HandS.IsInst
import HandS.Star
import HandS.CallLocal
import HandS.Walk
import HandS.Zip
import HandS.Style
import HandS.Conv
import HandS.More
import PySem.Challenge.RW_ownchecks_k01_whole_words_and_their_one
set_option Elab.async false
set_option linter.all false
set_option maxRecDepth 100000
set_option maxHeartbeats 4000000
namespace Mi
inductive Vl where
  | non
  | bl (b : Bool)
  | int (i : Int)
  | str (s : List Nat)
  | tup (xs : List Vl)
  | lst (xs : List Vl)
  | scr (xs : List Vl)
  | dct (xs : List Vl)
  | ins (c : Nat) (xs : List Vl)
  | ref (n : Nat)
  | fn (g : Nat)
  | clo (k : Nat)
  deriving Inhabited
inductive Ob where
  | lst (xs : List Vl)
  | dct (kvs : List (Vl × Vl))
  | ins (c : Nat) (xs : List (Option Vl))
  deriving Inhabited
inductive R (α : Type) where
  | ok (a : α) (h : List Ob)
  | exc (c : Nat) (p : Option Vl) (h : List Ob)
  | bad
abbrev Env := List (Option Vl)
abbrev Hh := List Ob
def bnd {α β : Type} (r : R α) (f : α → Hh → R β) : R β :=
  match r with
  | .ok a h => f a h
  | .exc c p h => .exc c p h
  | .bad => .bad
def lift {α : Type} (o : Option α) (h : Hh) : R α :=
  match o with
  | some a => .ok a h
  | none => .bad
inductive BO where | add | sub | mul | fdiv | mod | pow | shl | shr | and | or | xor
inductive CO where | eq | ne | lt | le | gt | ge | is | isnot | isin | notin
inductive Tg where | n (i : Nat) | t (is : List Nat)
inductive Bif where
  | len | abs | max2 | min2 | maxl | minl | int | tuple | sum | all | any | isint | isbool | istuple | isstr | islist | isown (c : Nat)
inductive Mth where | append | extend | pop0 | pop1 | bitlen
inductive Ex where
  | var (i : Nat)
  | int (i : Int)
  | bl (b : Bool)
  | non
  | str (s : List Nat)
  | gl (g : Nat)
  | bin (o : BO) (a b : Ex)
  | neg (a : Ex)
  | cmp (o : CO) (a b : Ex)
  | chain (o p : CO) (a b c : Ex)
  | and (a b : Ex)
  | or (a b : Ex)
  | not (a : Ex)
  | ite (c a b : Ex)
  | tup (as : Ex)
  | fz (f : Ex)
  | th (f : Ex)
  | sub (a i : Ex)
  | slc (a lo hi : Ex)
  | call (f : Nat) (as : Ex)
  | callv (i : Nat) (as : Ex)
  | mk (c : Nat) (as : Ex)
  | bif (b : Bif) (as : Ex)
  | mth (m : Mth) (o as : Ex)
  | attr (o : Ex) (f : Nat)
  | rev (a : Ex)
  | dnew
  | trg (as : Ex)
  -- arguments
  | anil
  | acons (e r : Ex)
  | astar (e r : Ex)
  -- fresh lists
  | disp (as : Ex)
  | comp (own : List Nat) (tg : Tg) (it c e : Ex)
  | listof (e : Ex)
  | srt (rev : Bool) (e : Ex)
  | cat (a b : Ex)
  | rep (a b : Ex)
  | slf (a lo hi : Ex)
  | lrg (as : Ex)
  -- what is walked
  | over (e : Ex)
  | range (as : Ex)
  | enum (e : Ex)
  | zip (a b : Ex)
  | noe
  | sm (e : Ex)
inductive St where
  | skip
  | never
  | seq (a b : St)
  | ex (e : Ex)
  | set (i : Nat) (e : Ex)
  | par (is : List Nat) (as : Ex)
  | unp (is : List Nat) (e : Ex)
  | aug (i : Nat) (o : BO) (e : Ex)
  | sets (o i e : Ex)
  | augs (o i : Ex) (b : BO) (e : Ex)
  | setf (o : Ex) (f : Nat) (e : Ex)
  | ifs (c : Ex) (a b : St)
  | fors (tg : Tg) (it : Ex) (b : St)
  | whiles (c : Ex) (b : St)
  | ret (e : Ex)
  | brk
  | cnt
  | raise (c : Nat) (as : Ex)
def seqOf (h : Hh) : Vl → Option (List Vl)
  | .tup xs => some xs
  | .lst xs => some xs
  | .scr xs => some xs
  | .ref n => match h[n]? with
    | some (.lst xs) => some xs
    | _ => none
  | _ => none
def lstOf (h : Hh) : Vl → Option (List Vl)
  | .lst xs => some xs
  | .ref n => match h[n]? with
    | some (.lst xs) => some xs
    | _ => none
  | _ => none
def intOf : Vl → Option Int
  | .int i => some i
  | _ => none
def intsOf : List Vl → Option (List Int)
  | [] => some []
  | .int i :: r => match intsOf r with
    | some l => some (i :: l)
    | none => none
  | _ :: _ => none
def blsOf : List Vl → Option (List Bool)
  | [] => some []
  | .bl i :: r => match blsOf r with
    | some l => some (i :: l)
    | none => none
  | _ :: _ => none
def line : Nat := 16777216
def truth (h : Hh) : Vl → Option Bool
  | .non => some false
  | .bl b => some b
  | .int i => some (i != 0)
  | .str s => if s.length ≤ line then some (!s.isEmpty) else none
  | .tup xs => some (!xs.isEmpty)
  | .lst xs => some (!xs.isEmpty)
  | .scr xs => some (!xs.isEmpty)
  | .ref n => match h[n]? with
    | some (.lst xs) => some (!xs.isEmpty)
    | some (.dct xs) => some (!xs.isEmpty)
    | _ => none
  | _ => none
mutual
def eqV : Vl → Vl → Bool
  | .non, .non => true
  | .bl a, .bl b => a == b
  | .bl a, .int j => (if a then 1 else 0) == j
  | .int i, .bl b => i == (if b then 1 else 0)
  | .int i, .int j => i == j
  | .str x, .str y => x == y
  | .lst xs, .lst ys => eqL xs ys
  | .tup xs, .tup ys => eqL xs ys
  | _, _ => false
def eqL : List Vl → List Vl → Bool
  | [], [] => true
  | x :: xs, y :: ys => match eqV x y with
    | true => eqL xs ys
    | false => false
  | [], _ :: _ => false
  | _ :: _, [] => false
end
mutual
def pl : Vl → Nat → Bool
  | .non, _ => true
  | .bl _, _ => true
  | .int _, _ => true
  | .str s, _ => s.all (· < 0x110000)
  | .lst xs, n + 1 => plL xs n
  | .tup xs, n + 1 => plL xs n
  | _, _ => false
def plL : List Vl → Nat → Bool
  | [], _ => true
  | x :: xs, n => match pl x n with
    | true => plL xs n
    | false => false
end
def deref (h : Hh) : Vl → Vl
  | .ref n => match h[n]? with
    | some (.lst xs) => .lst xs
    | _ => .ref n
  | v => v
def pyEq (h : Hh) (x y : Vl) : Option Bool :=
  let a := deref h x
  let b := deref h y
  match pl a 20 with
  | true => match pl b 20 with
    | true => some (eqV a b)
    | false => none
  | false => none
def flat : Vl → Bool
  | .non => true
  | .bl _ => true
  | .int _ => true
  | .str _ => true
  | _ => false
def bitsOk (i : Int) (n : Nat) : Bool := decide (i.natAbs.log2 < n)
def natOf : Int → Option Nat
  | .ofNat n => some n
  | .negSucc _ => none
def binI (o : BO) (i j : Int) : Option Int :=
  match o with
  | .add => some (i + j)
  | .sub => some (i - j)
  | .mul => if i.natAbs.log2 + j.natAbs.log2 < 1000000 ∨ (-18446744073709551616 < i ∧ i < 18446744073709551616) ∨ (-18446744073709551616 < j ∧ j < 18446744073709551616) then some (i * j) else none
  | .fdiv => if 0 < j then (if j.natAbs.log2 < 9000 then some (i / j) else none) else none
  | .mod => if 0 < j then some (i % j) else none
  | .pow => match natOf j with
    | some m => if (i.natAbs.log2 + 1) * m < 100000 then some (i ^ m) else none
    | none => none
  | .shl => match natOf j with
    | some m => if i.natAbs.log2 + m < 100000 then some (i * 2 ^ m) else none
    | none => none
  | .shr => match natOf j with
    | some m => some (i / 2 ^ m)
    | none => none
  | .and => match natOf i with
    | some a => match natOf j with
      | some b => some (.ofNat (a &&& b))
      | none => none
    | none => none
  | .or => match natOf i with
    | some a => match natOf j with
      | some b => some (.ofNat (a ||| b))
      | none => none
    | none => none
  | .xor => match natOf i with
    | some a => match natOf j with
      | some b => some (.ofNat (a ^^^ b))
      | none => none
    | none => none
def repL (k : Nat) (xs : List Vl) : List Vl := (List.replicate k xs).flatten
def binV (o : BO) (h : Hh) (x y : Vl) : Option Vl :=
  match x, y with
  | .int i, .int j => match binI o i j with
    | some k => some (.int k)
    | none => none
  | .str a, .str b => match o with
    | .add => if a.length + b.length ≤ line then some (.str (a ++ b)) else none
    | _ => none
  | .tup a, .tup b => match o with
    | .add => if a.length + b.length ≤ line then some (.tup (a ++ b)) else none
    | _ => none
  | .tup a, .int k => match o with
    | .mul => if 2 ≤ k then (if k ≤ 1000 then (if a.length ≤ 1000 then (if a.isEmpty then none else some (.tup (repL k.toNat a))) else none) else none) else none
    | _ => none
  | _, _ => none
def augV (o : BO) (h : Hh) (x y : Vl) : Option Vl :=
  match x, y with
  | .int i, .int j => match binI o i j with
    | some k => some (.int k)
    | none => none
  | .str a, .str b => match o with
    | .add => if a.length + b.length ≤ line then some (.str (a ++ b)) else none
    | _ => none
  | _, _ => none
def catV (h : Hh) (x y : Vl) : Option (List Vl) :=
  match lstOf h x with
  | some a => match lstOf h y with
    | some b => if a.length + b.length ≤ line then some (a ++ b) else none
    | none => none
  | none => none
def repV (h : Hh) (x y : Vl) : Option (List Vl) :=
  match lstOf h x with
  | some a => match y with
    | .int k => if a.length * k.toNat ≤ line then (if k < 1000000 then (if -1000000 < k then some (repL k.toNat a) else none) else none) else none
    | _ => none
  | none => none
def inB (x : Vl) : List Vl → Bool
  | [] => false
  | y :: r => match eqV y x with
    | true => true
    | false => inB x r
def keyOk : Vl → Bool
  | .int _ => true
  | .str _ => true
  | _ => false
def keyEq : Vl → Vl → Bool
  | .int i, .int j => i == j
  | .str x, .str y => x == y
  | _, _ => false
def dget (k : Vl) : List (Vl × Vl) → Option Vl
  | [] => none
  | (a, v) :: r => match keyEq a k with
    | true => some v
    | false => dget k r
def drep (k v : Vl) : List (Vl × Vl) → List (Vl × Vl)
  | [] => []
  | (a, x) :: r => match keyEq a k with
    | true => (a, v) :: drep k v r
    | false => (a, x) :: drep k v r
def dput (k v : Vl) (kvs : List (Vl × Vl)) : List (Vl × Vl) :=
  match dget k kvs with
  | some _ => drep k v kvs
  | none => kvs ++ [(k, v)]
def isIn (h : Hh) (x y : Vl) : Option Bool :=
  match y with
  | .ref n => match h[n]? with
    | some (.dct kvs) => if keyOk x then some (dget x kvs).isSome else none
    | some (.lst xs) => if flat x && xs.all flat then some (inB x xs) else none
    | _ => none
  | .tup xs => if flat x && xs.all flat then some (inB x xs) else none
  | .lst xs => if flat x && xs.all flat then some (inB x xs) else none
  | _ => none
def isNon : Vl → Bool
  | .non => true
  | _ => false
def cmpV (o : CO) (h : Hh) (x y : Vl) : Option Bool :=
  match o with
  | .eq => pyEq h x y
  | .ne => match pyEq h x y with
    | some b => some (!b)
    | none => none
  | .lt => match x, y with
    | .int i, .int j => some (decide (i < j))
    | _, _ => none
  | .le => match x, y with
    | .int i, .int j => some (decide (i ≤ j))
    | _, _ => none
  | .gt => match x, y with
    | .int i, .int j => some (decide (j < i))
    | _, _ => none
  | .ge => match x, y with
    | .int i, .int j => some (decide (j ≤ i))
    | _, _ => none
  | .is => match y with
    | .non => some (isNon x)
    | _ => none
  | .isnot => match y with
    | .non => some (!isNon x)
    | _ => none
  | .isin => isIn h x y
  | .notin => match isIn h x y with
    | some b => some (!b)
    | none => none
def ixN (n : Nat) (i : Int) : Option Nat :=
  match i with
  | .ofNat k => if k < n then some k else none
  | .negSucc k => if k < n then some (n - (k + 1)) else none
def subV (h : Hh) (x y : Vl) : Option Vl :=
  match y with
  | .int i => match x with
    | .ref n => match h[n]? with
      | some (.lst xs) => match ixN xs.length i with
        | some j => xs[j]?
        | none => none
      | some (.dct kvs) => dget y kvs
      | _ => none
    | .tup xs => match ixN xs.length i with
      | some j => xs[j]?
      | none => none
    | .lst xs => match ixN xs.length i with
      | some j => xs[j]?
      | none => none
    | .scr xs => match ixN xs.length i with
      | some j => xs[j]?
      | none => none
    | _ => none
  | .str _ => match x with
    | .ref n => match h[n]? with
      | some (.dct kvs) => dget y kvs
      | _ => none
    | _ => none
  | _ => none
def getO (h : Hh) (x y : Vl) : Option Vl :=
  match x with
  | .ref _ => subV h x y
  | _ => none
def sIx (n d : Nat) : Option Int → Nat
  | none => d
  | some (.ofNat k) => min k n
  | some (.negSucc k) => n - (k + 1)
def cut (xs : List Vl) (lo hi : Option Int) : List Vl := (xs.drop (sIx xs.length 0 lo)).take (sIx xs.length xs.length hi - sIx xs.length 0 lo)
def cutW (h : Hh) (x : Vl) (lo hi : Option Int) : Option Vl :=
  match x with
  | .tup xs => some (.tup (cut xs lo hi))
  | .lst xs => some (.lst (cut xs lo hi))
  | .scr xs => some (.lst (cut xs lo hi))
  | .ref n => match h[n]? with
    | some (.lst xs) => some (.lst (cut xs lo hi))
    | _ => none
  | _ => none
def partOf : Option Vl → Option (Option Int)
  | none => some none
  | some (.int i) => some (some i)
  | _ => none
def insI (x : Int) : List Int → List Int
  | [] => [x]
  | y :: r => if x ≤ y then x :: y :: r else y :: insI x r
def sortI : List Int → List Int
  | [] => []
  | x :: r => insI x (sortI r)
def sumI : List Int → Int
  | [] => 0
  | x :: r => x + sumI r
def maxI : List Int → Option Int
  | [] => none
  | [x] => some x
  | x :: r => match maxI r with
    | some m => some (if x ≤ m then m else x)
    | none => none
def minI : List Int → Option Int
  | [] => none
  | [x] => some x
  | x :: r => match minI r with
    | some m => some (if m ≤ x then m else x)
    | none => none
def rangeL (n : Nat) (a c : Int) : List Vl :=
  match n with
  | 0 => []
  | n + 1 => .int a :: rangeL n (a + c) c
def revW (h : Hh) : Vl → Option Vl
  | .tup xs => some (.tup xs.reverse)
  | x => match (match x with | .scr xs => some xs | x => lstOf h x) with
    | some xs => some (.lst xs.reverse)
    | none => none
def rngL (xs : List Vl) : Option (List Vl) :=
  match xs with
  | [.int b] => if b.natAbs < 1000000 then some (rangeL b.toNat 0 1) else none
  | [.int a, .int b] => if a.natAbs < 1000000 then (if b.natAbs < 1000000 then some (rangeL (b - a).toNat a 1) else none) else none
  | _ => none
def dkeys (h : Hh) : Vl → Option (List Int)
  | .ref n => match h[n]? with
    | some (.dct kvs) => intsOf (kvs.map (·.1))
    | _ => none
  | _ => none
def rng3 (a b c : Int) : Option Nat :=
  match decide (c ≠ 0) && decide (c.natAbs < 1073741824) && PySem.Builtin.Range.small a b c with
  | true => some (PySem.Builtin.Range.rangeSize a b c).toNat
  | false => none
def frq : Vl → Option (Bool × List Vl)
  | .tup xs => some (true, xs)
  | .lst xs => some (false, xs)
  | .scr xs => some (false, xs)
  | _ => none
def arg1 (f : Vl → Option Vl) : List Vl → Option Vl
  | [x] => f x
  | _ => none
def arg2 (f : Vl → Vl → Option Vl) : List Vl → Option Vl
  | [x, y] => f x y
  | _ => none
def lenV (h : Hh) : Vl → Option Vl
  | .str s => if s.length ≤ line then some (.int s.length) else none
  | .ref n => match h[n]? with
    | some (.lst xs) => some (.int xs.length)
    | some (.dct xs) => some (.int xs.length)
    | _ => none
  | x => match seqOf h x with
    | some l => some (.int l.length)
    | none => none
def absV : Vl → Option Vl
  | .int i => some (.int (if i < 0 then -i else i))
  | _ => none
def max2V : Vl → Vl → Option Vl
  | .int i, .int j => some (.int (if j > i then j else i))
  | _, _ => none
def min2V : Vl → Vl → Option Vl
  | .int i, .int j => some (.int (if j < i then j else i))
  | _, _ => none
def ofInts (h : Hh) (f : List Int → Option Int) (x : Vl) : Option Vl :=
  match lstOf h x with
  | some l => match intsOf l with
    | some l => match f l with
      | some m => some (.int m)
      | none => none
    | none => none
  | none => none
def ofBls (h : Hh) (f : List Bool → Bool) (x : Vl) : Option Vl :=
  match lstOf h x with
  | some l => match blsOf l with
    | some l => some (.bl (f l))
    | none => none
  | none => none
def intV : Vl → Option Vl
  | .int i => some (.int i)
  | .bl b => some (.int (if b then 1 else 0))
  | _ => none
def tupleV (h : Hh) (x : Vl) : Option Vl :=
  match seqOf h x with
  | some l => some (.tup l)
  | none => none
inductive Kd where | non | bl | int | str | tup | lst | own (c : Nat)
def kdOf (h : Hh) : Vl → Option Kd
  | .non => some .non
  | .bl _ => some .bl
  | .int _ => some .int
  | .str _ => some .str
  | .tup _ => some .tup
  | .lst _ => some .lst
  | .ins c _ => some (.own c)
  | .ref n => match h[n]? with
    | some (.lst _) => some .lst
    | _ => none
  | _ => none
def isKd (b : Bif) (k : Kd) : Option Bool :=
  match b with
  | .isint => match k with
    | .int => some true
    | .bl => some true
    | _ => some false
  | .isbool => match k with
    | .bl => some true
    | _ => some false
  | .istuple => match k with
    | .tup => some true
    | _ => some false
  | .isstr => match k with
    | .str => some true
    | _ => some false
  | .islist => match k with
    | .lst => some true
    | _ => some false
  | .isown c => match k with
    | .own d => some (d == c)
    | _ => some false
  | _ => none
def isV (b : Bif) (h : Hh) (x : Vl) : Option Vl :=
  match kdOf h x with
  | some k => match isKd b k with
    | some c => some (.bl c)
    | none => none
  | none => none
def bifV (b : Bif) (h : Hh) (xs : List Vl) : Option Vl :=
  match b with
  | .len => arg1 (lenV h) xs
  | .abs => arg1 absV xs
  | .max2 => arg2 max2V xs
  | .min2 => arg2 min2V xs
  | .maxl => arg1 (ofInts h maxI) xs
  | .minl => arg1 (ofInts h minI) xs
  | .int => arg1 intV xs
  | .tuple => arg1 (tupleV h) xs
  | .sum => arg1 (ofInts h fun l => some (sumI l)) xs
  | .all => arg1 (ofBls h fun l => l.all id) xs
  | .any => arg1 (ofBls h fun l => l.any id) xs
  | b => arg1 (isV b h) xs
def appendV (h : Hh) (o x : Vl) : R Vl :=
  match o with
  | .ref n => match h[n]? with
    | some (.lst l) => if l.length < line then .ok .non (h.set n (.lst (l ++ [x]))) else .bad
    | _ => .bad
  | _ => .bad
def extendV (h : Hh) (o x : Vl) : R Vl :=
  match o with
  | .ref n => match h[n]? with
    | some (.lst l) => match x with
      | .lst y => if l.length + y.length ≤ line then .ok .non (h.set n (.lst (l ++ y))) else .bad
      | _ => .bad
    | _ => .bad
  | _ => .bad
def popV (h : Hh) (o : Vl) : R Vl :=
  match o with
  | .ref n => match h[n]? with
    | some (.lst l) => match l[l.length - 1]? with
      | some y => .ok y (h.set n (.lst l.dropLast))
      | none => .bad
    | _ => .bad
  | _ => .bad
def popAtV (h : Hh) (o x : Vl) : R Vl :=
  match o with
  | .ref n => match h[n]? with
    | some (.lst l) => match x with
      | .int (.ofNat k) => if k < 1000000000 then (match l[k]? with
        | some y => .ok y (h.set n (.lst (l.eraseIdx k)))
        | none => .bad) else .bad
      | _ => .bad
    | _ => .bad
  | _ => .bad
def bitsV (h : Hh) (o : Vl) : R Vl :=
  match o with
  | .int i => .ok (.int (if i = 0 then 0 else (i.natAbs.log2 + 1 : Nat))) h
  | _ => .bad
def mthV (m : Mth) (h : Hh) (o : Vl) (xs : List Vl) : R Vl :=
  match m with
  | .append => match xs with
    | [x] => appendV h o x
    | _ => .bad
  | .extend => match xs with
    | [x] => extendV h o x
    | _ => .bad
  | .pop0 => match xs with
    | [] => popV h o
    | _ => .bad
  | .pop1 => match xs with
    | [x] => popAtV h o x
    | _ => .bad
  | .bitlen => match xs with
    | [] => bitsV h o
    | _ => .bad
def rcv (m : Mth) (h : Hh) (x : Vl) : Bool :=
  match m with
  | .bitlen => true
  | _ => match x with
    | .ref n => match h[n]? with
      | some (.lst _) => true
      | _ => false
    | _ => false
def putE (env : Env) (i : Nat) (v : Vl) : Env := env.set i (some v)
def putEs : Env → List Nat → List Vl → Option Env
  | env, [], [] => some env
  | env, i :: is, v :: vs => putEs (putE env i v) is vs
  | _, _, _ => none
def tgV (tg : Tg) (v : Vl) (env : Env) : Option Env :=
  match tg with
  | .n i => some (putE env i v)
  | .t is => match v with
    | .tup xs => putEs env is xs
    | _ => none
def wipeE (env : Env) : List Nat → Env
  | [] => env
  | v :: vs => (wipeE env vs).set v none
def noX {α : Type} (r : R α) : R α :=
  match r with
  | .ok a h => .ok a h
  | _ => .bad
def compL (turn : Vl → Hh → R (Option Vl)) : List Vl → List Vl → Hh → R (List Vl)
  | [], acc, h => .ok acc h
  | x :: r, acc, h => bnd (noX (turn x h)) fun o h1 => match o with
    | some y => if acc.length < line then compL turn r (acc ++ [y]) h1 else .bad
    | none => compL turn r acc h1
inductive Wk where | its (xs : List Vl) | live (n : Nat)
def fuelW : Nat := 1000000
def compN (turn : Vl → Hh → R (Option Vl)) (n : Nat) : Nat → Nat → List Vl → Hh → R (List Vl)
  | 0, _, _, _ => .bad
  | k + 1, i, acc, h => match h[n]? with
    | some (.lst ys) => match ys[i]? with
      | some x => bnd (noX (turn x h)) fun o h1 => match o with
        | some y => if acc.length < line then compN turn n k (i + 1) (acc ++ [y]) h1 else .bad
        | none => compN turn n k (i + 1) acc h1
      | none => .ok acc h
    | _ => .bad
def walkC (turn : Vl → Hh → R (Option Vl)) (w : Wk) (h : Hh) : R (List Vl) :=
  match w with
  | .its xs => compL turn xs [] h
  | .live n => compN turn n fuelW 0 [] h
structure GT where
  gv : Nat → Option Vl            -- module names' values
  at_ : Nat → Nat → Option (Nat ⊕ Nat)   -- an attribute of a class: a slot, a property's def
  init : Nat → Option (Nat × Nat)       -- a class's __init__, how many slots it has
  exk : Nat → Option Bool    -- an error class: whether it keeps what it takes
def mapO (f : Vl → Option Vl) : List Vl → Option (List Vl)
  | [] => some []
  | x :: r => match f x with
    | some y => match mapO f r with
      | some l => some (y :: l)
      | none => none
    | none => none
def frV (h : Hh) (n0 : Nat) : Nat → Vl → Option Vl
  | 0, _ => none
  | k + 1, v => match v with
    | .tup xs => match mapO (frV h n0 k) xs with
      | some l => some (.tup l)
      | none => none
    | .lst xs => match mapO (frV h n0 k) xs with
      | some l => some (.lst l)
      | none => none
    | .ins c xs => match mapO (frV h n0 k) xs with
      | some l => some (.ins c l)
      | none => none
    | .ref n => if n < n0 then some (.ref n) else match h[n]? with
      | some (.lst xs) => match mapO (frV h n0 k) xs with
        | some l => some (.lst l)
        | none => none
      | _ => none
    | .scr _ => none
    | .dct _ => none
    | .clo _ => none
    | v => some v
mutual
def wfV (n0 : Nat) : Vl → Bool
  | .ref n => decide (n < n0)
  | .tup xs => wfL n0 xs
  | .lst xs => wfL n0 xs
  | .scr xs => wfL n0 xs
  | .dct xs => wfL n0 xs
  | .ins _ xs => wfL n0 xs
  | .clo _ => false
  | _ => true
def wfL (n0 : Nat) : List Vl → Bool
  | [] => true
  | x :: r => match wfV n0 x with
    | true => wfL n0 r
    | false => false
end
def wfK (n0 : Nat) : List (Vl × Vl) → Bool
  | [] => true
  | (a, x) :: r => match wfV n0 a with
    | true => match wfV n0 x with
      | true => wfK n0 r
      | false => false
    | false => false
def wfF (n0 : Nat) : List (Option Vl) → Bool
  | [] => true
  | some x :: r => match wfV n0 x with
    | true => wfF n0 r
    | false => false
  | none :: r => wfF n0 r
def wfO (n0 : Nat) : Ob → Bool
  | .lst xs => wfL n0 xs
  | .dct kvs => wfK n0 kvs
  | .ins _ xs => wfF n0 xs
def wfH (n0 : Nat) : Hh → Bool
  | [] => true
  | o :: r => match wfO n0 o with
    | true => wfH n0 r
    | false => false
def fin (frz : Bool) (n0 : Nat) (v : Vl) (h : Hh) : R Vl :=
  match frz with
  | false => .ok v h
  | true => match decide (h.length ≤ n0) with
    | true => .ok v h
    | false => match frV h n0 30 v with
      | some y => match wfV n0 y with
        | true => match wfH n0 (h.take n0) with
          | true => .ok y (h.take n0)
          | false => .bad
        | false => .bad
      | none => .bad
def finX (n0 : Nat) (c : Nat) (p : Option Vl) (h : Hh) : R Vl :=
  match decide (h.length ≤ n0) with
  | true => .exc c p h
  | false => match p with
    | none => match wfH n0 (h.take n0) with
      | true => .exc c none (h.take n0)
      | false => .bad
    | some v => match frV h n0 30 v with
      | some y => match wfV n0 y with
        | true => match wfH n0 (h.take n0) with
          | true => .exc c (some y) (h.take n0)
          | false => .bad
        | false => .bad
      | none => .bad
def allSome : List (Option Vl) → Option (List Vl)
  | [] => some []
  | some x :: r => match allSome r with
    | some l => some (x :: l)
    | none => none
  | none :: _ => none
def made (n : Nat) (v : Vl) (h : Hh) : R Vl :=
  match v with
  | .non => match decide (h.length = n + 1) with
    | true => match h[n]? with
      | some (.ins c xs) => match allSome xs with
        | some l => match wfL n l with
          | true => match wfH n (h.take n) with
            | true => .ok (.ins c l) (h.take n)
            | false => .bad
          | false => .bad
        | none => .bad
      | _ => .bad
    | false => .bad
  | _ => .bad
abbrev CF := Nat → List Vl → Hh → R Vl
mutual
def evE (G : GT) (cf : CF) : Ex → Env → Hh → R Vl
  | .var i, env, h => match env[i]? with
    | some (some v) => .ok v h
    | _ => .bad
  | .int i, _, h => .ok (.int i) h
  | .bl b, _, h => .ok (.bl b) h
  | .non, _, h => .ok .non h
  | .str s, _, h => .ok (.str s) h
  | .gl g, _, h => lift (G.gv g) h
  | .bin o a b, env, h => bnd (evE G cf a env h) fun x h => bnd (evE G cf b env h) fun y h => lift (binV o h x y) h
  | .neg a, env, h => bnd (evE G cf a env h) fun x h => match x with
    | .int i => .ok (.int (-i)) h
    | _ => .bad
  | .cmp o a b, env, h => bnd (evE G cf a env h) fun x h => bnd (evE G cf b env h) fun y h => match cmpV o h x y with
    | some c => .ok (.bl c) h
    | none => .bad
  | .chain o p a b c, env, h => bnd (evE G cf a env h) fun x h => bnd (evE G cf b env h) fun y h => match cmpV o h x y with
    | some true => bnd (evE G cf c env h) fun z h => match cmpV p h y z with
      | some d => .ok (.bl d) h
      | none => .bad
    | some false => .ok (.bl false) h
    | none => .bad
  | .and a b, env, h => bnd (evE G cf a env h) fun x h => match x with
    | .bl true => evE G cf b env h
    | .bl false => .ok (.bl false) h
    | _ => .bad
  | .or a b, env, h => bnd (evE G cf a env h) fun x h => match x with
    | .bl true => .ok (.bl true) h
    | .bl false => evE G cf b env h
    | _ => .bad
  | .not a, env, h => bnd (evE G cf a env h) fun x h => match truth h x with
    | some b => .ok (.bl (!b)) h
    | none => .bad
  | .ite c a b, env, h => bnd (evE G cf c env h) fun x h => match truth h x with
    | some true => evE G cf a env h
    | some false => evE G cf b env h
    | none => .bad
  | .tup as, env, h => bnd (evA G cf as env h) fun xs h => match decide (xs.length ≤ line) with
    | true => .ok (.tup xs) h
    | false => .bad
  | .fz f, env, h => bnd (evF G cf f env h) fun xs h => .ok (.lst xs) h
  | .th f, env, h => bnd (evF G cf f env h) fun xs h => .ok (.ref h.length) (h ++ [.lst xs])
  | .sub a i, env, h => bnd (evE G cf a env h) fun x h => bnd (evE G cf i env h) fun y h => lift (subV h x y) h
  | .slc a lo hi, env, h => bnd (evE G cf a env h) fun x h => bnd (evO G cf lo env h) fun l h => bnd (evO G cf hi env h) fun u h => lift (cutW h x l u) h
  | .call f as, env, h => bnd (evA G cf as env h) fun xs h => cf f xs h
  | .callv i as, env, h => match env[i]? with
    | some (some (.fn f)) => bnd (evA G cf as env h) fun xs h => cf f xs h
    | _ => .bad
  | .mk c as, env, h => match G.init c with
    | some (f, k) => bnd (evA G cf as env h) fun xs h => bnd (cf f (.ref h.length :: xs) (h ++ [.ins c (List.replicate k none)])) fun v h' => made h.length v h'
    | none => .bad
  | .bif b as, env, h => bnd (evA G cf as env h) fun xs h => lift (bifV b h xs) h
  | .mth m o as, env, h => bnd (evE G cf o env h) fun x h => match rcv m h x with
    | true => bnd (evA G cf as env h) fun xs h => mthV m h x xs
    | false => .bad
  | .rev a, env, h => bnd (evE G cf a env h) fun x h => lift (revW h x) h
  | .dnew, _, h => .ok (.ref h.length) (h ++ [.dct []])
  | .trg as, env, h => bnd (evA G cf as env h) fun xs h => match rngL xs with
    | some l => .ok (.tup l) h
    | none => .bad
  | .attr o f, env, h => bnd (evE G cf o env h) fun x h => match x with
    | .ins c xs => match G.at_ c f with
      | some (.inl i) => lift xs[i]? h
      | some (.inr g) => cf g [x] h
      | none => .bad
    | .ref n => match h[n]? with
      | some (.ins c xs) => match G.at_ c f with
        | some (.inl i) => match xs[i]? with
          | some (some v) => .ok v h
          | _ => .bad
        | some (.inr g) => cf g [x] h
        | none => .bad
      | _ => .bad
    | _ => .bad
  | _, _, _ => .bad
def evA (G : GT) (cf : CF) : Ex → Env → Hh → R (List Vl)
  | .anil, _, h => .ok [] h
  | .acons e r, env, h => bnd (evE G cf e env h) fun x h => bnd (evA G cf r env h) fun xs h => .ok (x :: xs) h
  | .astar e r, env, h => bnd (evE G cf e env h) fun x h => match seqOf h x with
    | some ys => bnd (evA G cf r env h) fun xs h => .ok (ys ++ xs) h
    | none => .bad
  | _, _, _ => .bad
def evF (G : GT) (cf : CF) : Ex → Env → Hh → R (List Vl)
  | .disp as, env, h => bnd (evA G cf as env h) fun xs h => match decide (xs.length ≤ line) with
    | true => .ok xs h
    | false => .bad
  | .comp own tg it c e, env, h => bnd (evW G cf it env h) fun w h => walkC (fun x h => match tgV tg x (wipeE env own) with
      | some env' => bnd (evC G cf c env' h) fun b h => match b with
        | true => bnd (evE G cf e env' h) fun y h => .ok (some y) h
        | false => .ok none h
      | none => .bad) w h
  | .listof e, env, h => bnd (evE G cf e env h) fun x h => lift (seqOf h x) h
  | .srt rev e, env, h => bnd (evE G cf e env h) fun x h => match lstOf h x with
    | some l => match intsOf l with
      | some l => match rev with
        | true => .ok ((sortI l).reverse.map .int) h
        | false => .ok ((sortI l).map .int) h
      | none => .bad
    | none => match dkeys h x with
      | some ks => match rev with
        | true => .bad
        | false => match decide (ks.length < 64) with
          | true => .ok ((sortI ks).map .int) h
          | false => .bad
      | none => .bad
  | .lrg as, env, h => bnd (evA G cf as env h) fun xs h => lift (rngL xs) h
  | .cat a b, env, h => bnd (evE G cf a env h) fun x h => bnd (evE G cf b env h) fun y h => lift (catV h x y) h
  | .rep a b, env, h => bnd (evE G cf a env h) fun x h => bnd (evE G cf b env h) fun y h => lift (repV h x y) h
  | .slf a lo hi, env, h => bnd (evE G cf a env h) fun x h => bnd (evO G cf lo env h) fun l h => bnd (evO G cf hi env h) fun u h => match lstOf h x with
    | some xs => .ok (cut xs l u) h
    | none => .bad
  | _, _, _ => .bad
def evW (G : GT) (cf : CF) : Ex → Env → Hh → R Wk
  | .over e, env, h => bnd (evE G cf e env h) fun x h => match x with
    | .tup xs => .ok (.its xs) h
    | .lst xs => .ok (.its xs) h
    | .scr xs => .ok (.its xs) h
    | .ref n => match h[n]? with
      | some (.lst _) => .ok (.live n) h
      | _ => .bad
    | _ => .bad
  | .range as, env, h => bnd (evA G cf as env h) fun xs h => match xs with
    | [.int b] => match decide (b.natAbs < 1000000000) with
      | true => .ok (.its (rangeL b.toNat 0 1)) h
      | false => .bad
    | [.int a, .int b] => match decide (a.natAbs < 1000000000) with
      | true => match decide (b.natAbs < 1000000000) with
        | true => .ok (.its (rangeL (b - a).toNat a 1)) h
        | false => .bad
      | false => .bad
    | [.int a, .int b, .int c] => match rng3 a b c with
      | some n => .ok (.its (rangeL n a c)) h
      | none => .bad
    | _ => .bad
  | .enum e, env, h => bnd (evE G cf e env h) fun x h => match frq x with
    | some (false, xs) => .ok (.its (List.zipWith (fun i v => .tup [i, v]) (rangeL xs.length 0 1) xs)) h
    | _ => .bad
  | .zip a b, env, h => bnd (evE G cf a env h) fun x h => bnd (evE G cf b env h) fun y h => match frq x with
    | some (k, xs) => match frq y with
      | some (j, ys) => match k == j with
        | true => .ok (.its (List.zipWith (fun u v => .tup [u, v]) xs ys)) h
        | false => .bad
      | none => .bad
    | none => .bad
  | _, _, _ => .bad
def evO (G : GT) (cf : CF) : Ex → Env → Hh → R (Option Int)
  | .noe, _, h => .ok none h
  | .sm e, env, h => bnd (evE G cf e env h) fun x h => match x with
    | .int i => .ok (some i) h
    | _ => .bad
  | _, _, _ => .bad
def evC (G : GT) (cf : CF) : Ex → Env → Hh → R Bool
  | .noe, _, h => .ok true h
  | .sm e, env, h => bnd (evE G cf e env h) fun x h => lift (truth h x) h
  | _, _, _ => .bad
end
inductive Oc where
  | nx (env : Env)
  | rt (v : Vl)
  | bk (env : Env)
  | ct (env : Env)
def bndS (r : R Oc) (f : Env → Hh → R Oc) : R Oc :=
  match r with
  | .ok (.nx env) h => f env h
  | r => r
def forL (turn : Vl → Env → Hh → R Oc) : List Vl → Env → Hh → R Oc
  | [], env, h => .ok (.nx env) h
  | x :: r, env, h => match turn x env h with
    | .ok (.nx env1) h1 => forL turn r env1 h1
    | .ok (.ct env1) h1 => forL turn r env1 h1
    | .ok (.bk env1) h1 => .ok (.nx env1) h1
    | .ok (.rt v) h1 => .ok (.rt v) h1
    | .exc c p h1 => .exc c p h1
    | .bad => .bad
def forN (turn : Vl → Env → Hh → R Oc) (n : Nat) : Nat → Nat → Env → Hh → R Oc
  | 0, _, _, _ => .bad
  | k + 1, i, env, h => match h[n]? with
    | some (.lst ys) => match ys[i]? with
      | some x => match turn x env h with
        | .ok (.nx env1) h1 => forN turn n k (i + 1) env1 h1
        | .ok (.ct env1) h1 => forN turn n k (i + 1) env1 h1
        | .ok (.bk env1) h1 => .ok (.nx env1) h1
        | .ok (.rt v) h1 => .ok (.rt v) h1
        | .exc c p h1 => .exc c p h1
        | .bad => .bad
      | none => .ok (.nx env) h
    | _ => .bad
def walkF (turn : Vl → Env → Hh → R Oc) (w : Wk) (env : Env) (h : Hh) : R Oc :=
  match w with
  | .its xs => forL turn xs env h
  | .live n => forN turn n fuelW 0 env h
def whileL (test : Env → Hh → R Bool) (body : Env → Hh → R Oc) : Nat → Env → Hh → R Oc
  | 0, _, _ => .bad
  | k + 1, env, h => match test env h with
    | .ok true h1 => match body env h1 with
      | .ok (.nx env2) h2 => whileL test body k env2 h2
      | .ok (.ct env2) h2 => whileL test body k env2 h2
      | .ok (.bk env2) h2 => .ok (.nx env2) h2
      | .ok (.rt v) h2 => .ok (.rt v) h2
      | .exc c p h2 => .exc c p h2
      | .bad => .bad
    | .ok false h1 => .ok (.nx env) h1
    | .exc c p h1 => .exc c p h1
    | .bad => .bad
def setV (h : Hh) (o i v : Vl) : Option Hh :=
  match o with
  | .ref n => match h[n]? with
    | some (.lst xs) => match i with
      | .int k => match ixN xs.length k with
        | some j => some (h.set n (.lst (xs.set j v)))
        | none => none
      | _ => none
    | some (.dct kvs) => match keyOk i with
      | true => if kvs.length < line then some (h.set n (.dct (dput i v kvs))) else none
      | false => none
    | _ => none
  | _ => none
def setF (G : GT) (h : Hh) (o : Vl) (f : Nat) (v : Vl) : Option Hh :=
  match o with
  | .ref n => match h[n]? with
    | some (.ins c xs) => match G.at_ c f with
      | some (.inl i) => if i < xs.length then some (h.set n (.ins c (xs.set i (some v)))) else none
      | _ => none
    | _ => none
  | _ => none
def evS (G : GT) (cf : CF) : St → Env → Hh → R Oc
  | .skip, env, h => .ok (.nx env) h
  | .never, _, _ => .bad
  | .seq a b, env, h => bndS (evS G cf a env h) fun env h => evS G cf b env h
  | .ex e, env, h => bnd (evE G cf e env h) fun _ h => .ok (.nx env) h
  | .set i e, env, h => bnd (evE G cf e env h) fun v h => .ok (.nx (putE env i v)) h
  | .par is as, env, h => bnd (evA G cf as env h) fun vs h => match putEs env is vs with
    | some env' => .ok (.nx env') h
    | none => .bad
  | .unp is e, env, h => bnd (evE G cf e env h) fun v h => match tgV (.t is) v env with
    | some env' => .ok (.nx env') h
    | none => .bad
  | .aug i o e, env, h => match env[i]? with
    | some (some x) => bnd (evE G cf e env h) fun y h => match augV o h x y with
      | some v => .ok (.nx (putE env i v)) h
      | none => .bad
    | _ => .bad
  | .sets o i e, env, h => bnd (evE G cf e env h) fun v h => bnd (evE G cf o env h) fun x h => bnd (evE G cf i env h) fun y h => match setV h x y v with
    | some h => .ok (.nx env) h
    | none => .bad
  | .augs o i b e, env, h => bnd (evE G cf o env h) fun x h => bnd (evE G cf i env h) fun y h => match getO h x y with
    | some z => bnd (evE G cf e env h) fun w h => match augV b h z w with
      | some v => match setV h x y v with
        | some h => .ok (.nx env) h
        | none => .bad
      | none => .bad
    | none => .bad
  | .setf o f e, env, h => bnd (evE G cf e env h) fun v h => bnd (evE G cf o env h) fun x h => match setF G h x f v with
    | some h => .ok (.nx env) h
    | none => .bad
  | .ifs c a b, env, h => bnd (evE G cf c env h) fun x h => match truth h x with
    | some true => evS G cf a env h
    | some false => evS G cf b env h
    | none => .bad
  | .fors tg it b, env, h => bnd (evW G cf it env h) fun w h => walkF (fun x env h => match tgV tg x env with
    | some env' => evS G cf b env' h
    | none => .bad) w env h
  | .whiles c b, env, h => whileL (fun env h => bnd (evE G cf c env h) fun x h => lift (truth h x) h) (fun env h => evS G cf b env h) fuelW env h
  | .ret e, env, h => bnd (evE G cf e env h) fun v h => .ok (.rt v) h
  | .brk, env, h => .ok (.bk env) h
  | .cnt, env, h => .ok (.ct env) h
  | .raise c as, env, h => bnd (evA G cf as env h) fun vs h => match vs with
    | [v] => match G.exk c with
      | some true => .exc c (some v) h
      | some false => .exc c none h
      | none => .bad
    | _ => .bad
structure FD where
  ar : Nat
  sl : Nat
  frz : Bool
  body : St
def endF (frz : Bool) (n0 : Nat) (r : R Oc) : R Vl :=
  match r with
  | .ok (.rt v) h => fin frz n0 v h
  | .ok (.nx _) h => fin frz n0 .non h
  | .ok _ _ => .bad
  | .exc c p h => finX n0 c p h
  | .bad => .bad
def run (G : GT) (ft : Nat → Option FD) : Nat → CF
  | 0 => fun _ _ _ => .bad
  | n + 1 => fun f args h => match ft f with
    | some d => match decide (args.length = d.ar) with
      | true => endF d.frz h.length (evS G (run G ft n) d.body (args.map some ++ List.replicate (d.sl - d.ar) none) h)
      | false => .bad
    | none => .bad
end Mi
set_option Elab.async false
set_option linter.all false
set_option maxRecDepth 100000
set_option maxHeartbeats 4000000
namespace Mi
open PySem L2
structure Gm where
  P : Program
  w : World
  K : PySem.W.Frag
  mg : Str → Option Value
  base : Heap
  fa : Nat → Addr
  ca : Nat → Addr
  xa : Nat → Addr
  xf : Nat → Str
  cok : Nat → Bool
def ScL (K : PySem.W.Frag) (L m : List Addr) (H : Hp) (a : Addr) (us : List V) : Prop :=
  (∃ o, H a = some (.frz o (.lst us))) ∨ (∃ o its n, K.lookup a = some o ∧ o.cls = .type "list" ∧ o.dict = none ∧ o.data = .seq its n ∧ its.size ≤ sizeLine ∧ Vals us its.toList)
mutual
def RepV (Γ : Gm) (L m : List Addr) (H : Hp) : Vl → V → Prop
  | .non, v => v = .non
  | .bl b, v => v = .bl b
  | .int i, v => v = .int i
  | .str s, v => v = .str ⟨s.toArray⟩
  | .tup xs, v => ∃ a us, v = .ref a ∧ SqT Γ.K H a us ∧ RepL Γ L m H xs us
  | .lst xs, v => ∃ a us, v = .ref a ∧ H a = some (.lst us) ∧ a ∉ m ∧ a ∉ L ∧ RepL Γ L m H xs us
  | .scr xs, v => ∃ a us, v = .ref a ∧ ScL Γ.K L m H a us ∧ RepL Γ L m H xs us
  | .ins c xs, v => ∃ a dx vs us, v = .ref a ∧ SlAt H a (Γ.ca c) dx vs ∧ a ∉ m ∧ a ∉ L ∧ dx ∉ m ∧ dx ∉ L ∧ (Γ.cok c = true ∧ ∀ (i : Nat) (u : V), us[i]? = some u → vs[i]? = some (some u)) ∧ RepL Γ L m H xs us
  | .dct _, _ => False
  | .ref n, v => ∃ a, v = .ref a ∧ m[n]? = some a
  | .fn g, v => v = .ref (Γ.fa g)
  | .clo _, _ => False
def RepL (Γ : Gm) (L m : List Addr) (H : Hp) : List Vl → List V → Prop
  | [], [] => True
  | x :: xs, u :: us => RepV Γ L m H x u ∧ RepL Γ L m H xs us
  | _, _ => False
end
structure Grow (m : List Addr) (H : Hp) (m' : List Addr) (H' : Hp) : Prop where
  ext : ∃ t, m' = m ++ t ∧ ∀ a ∈ t, H a = none
  keep : ∀ a o, H a = some o → a ∉ m → H' a = some o
  tup : ∀ a us, H a = some (.tup us) → H' a = some (.tup us)
  frz : ∀ a o u, H a = some (.frz o u) → H' a = some (.frz o u)
  own : ∀ a x, H a = some (.own x) → H' a = some (.own x)
theorem Grow.refl (m : List Addr) (H : Hp) : Grow m H m H := ⟨⟨[], by simp, fun _ h => nomatch h⟩, fun _ _ h _ => h, fun _ _ h => h, fun _ _ _ h => h, fun _ _ h => h⟩
theorem free_back {m m1 : List Addr} {H H1 : Hp} (g : Grow m H m1 H1) {a : Addr} (h : H1 a = none) : H a = none ∨ a ∈ m := by
  by_cases ha : a ∈ m
  · exact .inr ha
  · left
    cases e : H a with
    | none => rfl
    | some o =>
      have := g.keep a o e ha
      rw [h] at this
      cases this
theorem Grow.mem {m m1 : List Addr} {H H1 : Hp} (g : Grow m H m1 H1) {a : Addr} (h : a ∈ m) : a ∈ m1 := by
  obtain ⟨t, e, _⟩ := g.ext
  rw [e]
  exact List.mem_append_left _ h
theorem Grow.get {m m1 : List Addr} {H H1 : Hp} (g : Grow m H m1 H1) {n : Nat} {a : Addr} (h : m[n]? = some a) : m1[n]? = some a := by
  obtain ⟨t, e, _⟩ := g.ext
  rw [e, List.getElem?_append_left (List.getElem?_eq_some_iff.mp h).1]
  exact h
theorem Grow.out {m m1 : List Addr} {H H1 : Hp} (g : Grow m H m1 H1) {a : Addr} {o : HO} (h : H a = some o) (n : a ∉ m) : a ∉ m1 := by
  obtain ⟨t, e, f⟩ := g.ext
  rw [e]
  intro z
  rcases List.mem_append.mp z with z | z
  · exact n z
  · rw [f a z] at h
    cases h
theorem Grow.trans {m m1 m2 : List Addr} {H H1 H2 : Hp} (a : Grow m H m1 H1) (b : Grow m1 H1 m2 H2) (hm : ∀ x ∈ m, ∃ o, H1 x = some o) : Grow m H m2 H2 where
  ext := by
    obtain ⟨t, e, f⟩ := a.ext
    obtain ⟨t', e', f'⟩ := b.ext
    refine ⟨t ++ t', by rw [e', e, List.append_assoc], fun x hx => ?_⟩
    rcases List.mem_append.mp hx with hx | hx
    · exact f x hx
    · rcases free_back a (f' x hx) with z | z
      · exact z
      · obtain ⟨o, ho⟩ := hm x z
        rw [f' x hx] at ho
        cases ho
  keep := fun x o h n => b.keep x o (a.keep x o h n) (a.out h n)
  tup := fun x us h => b.tup x us (a.tup x us h)
  frz := fun x o u h => b.frz x o u (a.frz x o u h)
  own := fun x y h => b.own x y (a.own x y h)
section
variable {Γ : Gm} {L m m1 : List Addr} {H H1 : Hp}
theorem sqT_grow {a : Addr} {us : List V} (g : Grow m H m1 H1) (h : SqT Γ.K H a us) : SqT Γ.K H1 a us := by
  rcases h with (h | ⟨o, h⟩) | h
  · exact .inl (.inl (g.tup _ _ h))
  · exact .inl (.inr ⟨o, g.frz _ _ _ h⟩)
  · exact .inr h
theorem slAt_grow {a C dx : Addr} {vs : List (Option V)} (g : Grow m H m1 H1) (h : SlAt H a C dx vs) (n : a ∉ m) : SlAt H1 a C dx vs := by
  obtain ⟨h1, h2, h3⟩ := h
  refine ⟨g.own _ _ h1, h2, ?_⟩
  rcases h3 with h3 | ⟨e, h3⟩
  · exact .inl (g.keep _ _ h3 n)
  · exact .inr ⟨e, g.keep _ _ h3 n⟩
theorem SlAt.there {H : Hp} {a C dx : Addr} {vs : List (Option V)} (h : SlAt H a C dx vs) : ∃ o, H a = some o := by
  rcases h.2.2 with e | ⟨_, e⟩ <;> exact ⟨_, e⟩
mutual
theorem RepV.grow (g : Grow m H m1 H1) : ∀ {x : Vl} {v : V}, RepV Γ L m H x v → RepV Γ L m1 H1 x v
  | .non, _, h => h
  | .bl _, _, h => h
  | .int _, _, h => h
  | .str _, _, h => h
  | .tup _, _, h => by
    obtain ⟨a, us, e, q, r⟩ := h
    exact ⟨a, us, e, sqT_grow g q, RepL.grow g r⟩
  | .lst _, _, h => by
    obtain ⟨a, us, e, q, n, n2, r⟩ := h
    exact ⟨a, us, e, g.keep _ _ q n, g.out q n, n2, RepL.grow g r⟩
  | .scr _, _, h => by
    obtain ⟨a, us, e, q, r⟩ := h
    refine ⟨a, us, e, ?_, RepL.grow g r⟩
    rcases q with ⟨o, q⟩ | q
    · exact .inl ⟨o, g.frz _ _ _ q⟩
    · exact .inr q
  | .ins _ _, _, h => by
    obtain ⟨a, dx, vs, us, e, q, n1, n2, n3, n4, f, r⟩ := h
    obtain ⟨o, ho⟩ := SlAt.there q
    exact ⟨a, dx, vs, us, e, slAt_grow g q n1, g.out ho n1, n2, g.out q.1 n3, n4, f, RepL.grow g r⟩
  | .dct _, _, h => h.elim
  | .ref _, _, h => by
    obtain ⟨a, e, q⟩ := h
    exact ⟨a, e, g.get q⟩
  | .fn _, _, h => h
  | .clo _, _, h => h.elim
theorem RepL.grow (g : Grow m H m1 H1) : ∀ {xs : List Vl} {vs : List V}, RepL Γ L m H xs vs → RepL Γ L m1 H1 xs vs
  | [], [], _ => trivial
  | _ :: _, _ :: _, h => ⟨RepV.grow g h.1, RepL.grow g h.2⟩
  | [], _ :: _, h => h.elim
  | _ :: _, [], h => h.elim
end
mutual
theorem RepV.apart {D : Addr} (hD : H D = none) : ∀ {x : Vl} {v : V}, RepV Γ L m H x v → RepV Γ (D :: L) m H x v
  | .non, _, h => h
  | .bl _, _, h => h
  | .int _, _, h => h
  | .str _, _, h => h
  | .tup _, _, h => by
    obtain ⟨a, us, e, q, r⟩ := h
    exact ⟨a, us, e, q, RepL.apart hD r⟩
  | .lst _, _, h => by
    obtain ⟨a, us, e, q, n, n2, r⟩ := h
    exact ⟨a, us, e, q, n, fun z => (List.mem_cons.mp z).elim (fun z => ne_of_none q hD z) n2, RepL.apart hD r⟩
  | .scr _, _, h => by
    obtain ⟨a, us, e, q, r⟩ := h
    exact ⟨a, us, e, q, RepL.apart hD r⟩
  | .ins _ _, _, h => by
    obtain ⟨a, dx, vs, us, e, q, n1, n2, n3, n4, f, r⟩ := h
    obtain ⟨o, ho⟩ := SlAt.there q
    exact ⟨a, dx, vs, us, e, q, n1, fun z => (List.mem_cons.mp z).elim (fun z => ne_of_none ho hD z) n2, n3, fun z => (List.mem_cons.mp z).elim (fun z => ne_of_none q.1 hD z) n4, f, RepL.apart hD r⟩
  | .dct _, _, h => h.elim
  | .ref _, _, h => h
  | .fn _, _, h => h
  | .clo _, _, h => h.elim
theorem RepL.apart {D : Addr} (hD : H D = none) : ∀ {xs : List Vl} {vs : List V}, RepL Γ L m H xs vs → RepL Γ (D :: L) m H xs vs
  | [], [], _ => trivial
  | _ :: _, _ :: _, h => ⟨RepV.apart hD h.1, RepL.apart hD h.2⟩
  | [], _ :: _, h => h.elim
  | _ :: _, [], h => h.elim
end
mutual
theorem RepV.joined {D : Addr} : ∀ {x : Vl} {v : V}, RepV Γ (D :: L) m H x v → RepV Γ L m H x v
  | .non, _, h => h
  | .bl _, _, h => h
  | .int _, _, h => h
  | .str _, _, h => h
  | .tup _, _, h => by
    obtain ⟨a, us, e, q, r⟩ := h
    exact ⟨a, us, e, q, RepL.joined r⟩
  | .lst _, _, h => by
    obtain ⟨a, us, e, q, n, n2, r⟩ := h
    exact ⟨a, us, e, q, n, fun z => n2 (List.mem_cons_of_mem _ z), RepL.joined r⟩
  | .scr _, _, h => by
    obtain ⟨a, us, e, q, r⟩ := h
    exact ⟨a, us, e, q, RepL.joined r⟩
  | .ins _ _, _, h => by
    obtain ⟨a, dx, vs, us, e, q, n1, n2, n3, n4, f, r⟩ := h
    exact ⟨a, dx, vs, us, e, q, n1, fun z => n2 (List.mem_cons_of_mem _ z), n3, fun z => n4 (List.mem_cons_of_mem _ z), f, RepL.joined r⟩
  | .dct _, _, h => h.elim
  | .ref _, _, h => h
  | .fn _, _, h => h
  | .clo _, _, h => h.elim
theorem RepL.joined {D : Addr} : ∀ {xs : List Vl} {vs : List V}, RepL Γ (D :: L) m H xs vs → RepL Γ L m H xs vs
  | [], [], _ => trivial
  | _ :: _, _ :: _, h => ⟨RepV.joined h.1, RepL.joined h.2⟩
  | [], _ :: _, h => h.elim
  | _ :: _, [], h => h.elim
end
theorem get_snoc {m : List Addr} {n : Nat} {a D : Addr} (h : m[n]? = some a) : (m ++ [D])[n]? = some a := by
  rw [List.getElem?_append_left (List.getElem?_eq_some_iff.mp h).1]
  exact h
mutual
theorem RepV.moved {D : Addr} : ∀ {x : Vl} {v : V}, RepV Γ (D :: L) m H x v → RepV Γ L (m ++ [D]) H x v
  | .non, _, h => h
  | .bl _, _, h => h
  | .int _, _, h => h
  | .str _, _, h => h
  | .tup _, _, h => by
    obtain ⟨a, us, e, q, r⟩ := h
    exact ⟨a, us, e, q, RepL.moved r⟩
  | .lst _, _, h => by
    obtain ⟨a, us, e, q, n, n2, r⟩ := h
    refine ⟨a, us, e, q, fun z => ?_, fun z => n2 (List.mem_cons_of_mem _ z), RepL.moved r⟩
    rcases List.mem_append.mp z with z | z
    · exact n z
    · exact n2 (List.mem_cons.mpr (.inl (List.mem_singleton.mp z)))
  | .scr _, _, h => by
    obtain ⟨a, us, e, q, r⟩ := h
    exact ⟨a, us, e, q, RepL.moved r⟩
  | .ins _ _, _, h => by
    obtain ⟨a, dx, vs, us, e, q, n1, n2, n3, n4, f, r⟩ := h
    refine ⟨a, dx, vs, us, e, q, fun z => ?_, fun z => n2 (List.mem_cons_of_mem _ z), fun z => ?_, fun z => n4 (List.mem_cons_of_mem _ z), f, RepL.moved r⟩
    · rcases List.mem_append.mp z with z | z
      · exact n1 z
      · exact n2 (List.mem_cons.mpr (.inl (List.mem_singleton.mp z)))
    · rcases List.mem_append.mp z with z | z
      · exact n3 z
      · exact n4 (List.mem_cons.mpr (.inl (List.mem_singleton.mp z)))
  | .dct _, _, h => h.elim
  | .ref _, _, h => by
    obtain ⟨a, e, q⟩ := h
    exact ⟨a, e, get_snoc q⟩
  | .fn _, _, h => h
  | .clo _, _, h => h.elim
theorem RepL.moved {D : Addr} : ∀ {xs : List Vl} {vs : List V}, RepL Γ (D :: L) m H xs vs → RepL Γ L (m ++ [D]) H xs vs
  | [], [], _ => trivial
  | _ :: _, _ :: _, h => ⟨RepV.moved h.1, RepL.moved h.2⟩
  | [], _ :: _, h => h.elim
  | _ :: _, [], h => h.elim
end
structure Chg (D : Addr) (H H' : Hp) : Prop where
  was : ∃ us, H D = some (.lst us)
  rest : ∀ a, a ≠ D → H' a = H a
theorem Chg.upd {D : Addr} {us us' : List V} (h : H D = some (.lst us)) : Chg D H (upd H D (.lst us')) := ⟨⟨us, h⟩, fun _ n => upd_ne n⟩
theorem Chg.ne {D a : Addr} {H H' : Hp} {o : HO} (c : Chg D H H') (h : H a = some o) (n : ∀ us, o ≠ .lst us) : a ≠ D := fun z => by
  obtain ⟨us, e⟩ := c.was
  rw [z, e] at h
  exact n us (Option.some.inj h).symm
theorem SlO_ne {C dx x : Addr} {vs : List (Option V)} (us : List V) : SlO C dx x vs ≠ .lst us := fun z => by
  unfold SlO at z
  cases z
theorem sqT_chg {D a : Addr} {H' : Hp} {us : List V} (c : Chg D H H') (h : SqT Γ.K H a us) : SqT Γ.K H' a us := by
  rcases h with (h | ⟨o, h⟩) | h
  · exact .inl (.inl (by rw [c.rest _ (c.ne h (fun _ z => nomatch z))]; exact h))
  · exact .inl (.inr ⟨o, by rw [c.rest _ (c.ne h (fun _ z => nomatch z))]; exact h⟩)
  · exact .inr h
theorem slAt_chg {D a C dx : Addr} {H' : Hp} {vs : List (Option V)} (c : Chg D H H') (h : SlAt H a C dx vs) : SlAt H' a C dx vs := by
  obtain ⟨h1, h2, h3⟩ := h
  refine ⟨by rw [c.rest _ (c.ne h1 (fun _ z => nomatch z))]; exact h1, h2, ?_⟩
  rcases h3 with h3 | ⟨e, h3⟩
  · exact .inl (by rw [c.rest _ (c.ne h3 SlO_ne)]; exact h3)
  · exact .inr ⟨e, by rw [c.rest _ (c.ne h3 (fun _ z => nomatch z))]; exact h3⟩
mutual
theorem RepV.chg {D : Addr} {H' : Hp} (c : Chg D H H') : ∀ {x : Vl} {v : V}, RepV Γ (D :: L) m H x v → RepV Γ (D :: L) m H' x v
  | .non, _, h => h
  | .bl _, _, h => h
  | .int _, _, h => h
  | .str _, _, h => h
  | .tup _, _, h => by
    obtain ⟨a, us, e, q, r⟩ := h
    exact ⟨a, us, e, sqT_chg c q, RepL.chg c r⟩
  | .lst _, _, h => by
    obtain ⟨a, us, e, q, n, n2, r⟩ := h
    exact ⟨a, us, e, by rw [c.rest _ (fun z => n2 (List.mem_cons.mpr (.inl z)))]; exact q, n, n2, RepL.chg c r⟩
  | .scr _, _, h => by
    obtain ⟨a, us, e, q, r⟩ := h
    refine ⟨a, us, e, ?_, RepL.chg c r⟩
    rcases q with ⟨o, q⟩ | q
    · exact .inl ⟨o, by rw [c.rest _ (c.ne q (fun _ z => nomatch z))]; exact q⟩
    · exact .inr q
  | .ins _ _, _, h => by
    obtain ⟨a, dx, vs, us, e, q, n1, n2, n3, n4, f, r⟩ := h
    exact ⟨a, dx, vs, us, e, slAt_chg c q, n1, n2, n3, n4, f, RepL.chg c r⟩
  | .dct _, _, h => h.elim
  | .ref _, _, h => h
  | .fn _, _, h => h
  | .clo _, _, h => h.elim
theorem RepL.chg {D : Addr} {H' : Hp} (c : Chg D H H') : ∀ {xs : List Vl} {vs : List V}, RepL Γ (D :: L) m H xs vs → RepL Γ (D :: L) m H' xs vs
  | [], [], _ => trivial
  | _ :: _, _ :: _, h => ⟨RepV.chg c h.1, RepL.chg c h.2⟩
  | [], _ :: _, h => h.elim
  | _ :: _, [], h => h.elim
end
theorem RepL.length : ∀ {xs : List Vl} {vs : List V}, RepL Γ L m H xs vs → xs.length = vs.length
  | [], [], _ => rfl
  | _ :: _, _ :: _, h => congrArg (· + 1) (RepL.length h.2)
  | [], _ :: _, h => h.elim
  | _ :: _, [], h => h.elim
theorem RepL.get : ∀ {xs : List Vl} {vs : List V} {i : Nat} {x : Vl}, RepL Γ L m H xs vs → xs[i]? = some x → ∃ v, vs[i]? = some v ∧ RepV Γ L m H x v
  | [], [], _, _, _, e => by simp at e
  | x :: _, v :: _, 0, _, h, e => by
    cases Option.some.inj e
    exact ⟨v, rfl, h.1⟩
  | _ :: xs, _ :: vs, i + 1, _, h, e => RepL.get (xs := xs) (vs := vs) (i := i) h.2 e
  | [], _ :: _, _, _, h, _ => h.elim
  | _ :: _, [], _, _, h, _ => h.elim
theorem RepL.of_get : ∀ {xs : List Vl} {vs : List V}, xs.length = vs.length → (∀ (i : Nat) x v, xs[i]? = some x → vs[i]? = some v → RepV Γ L m H x v) → RepL Γ L m H xs vs
  | [], [], _, _ => trivial
  | x :: xs, v :: vs, e, h => ⟨h 0 x v rfl rfl, RepL.of_get (by simpa using e) fun i y u a b => h (i + 1) y u a b⟩
  | [], _ :: _, e, _ => by simp at e
  | _ :: _, [], e, _ => by simp at e
theorem RepL.append {xs ys : List Vl} {vs ws : List V} (a : RepL Γ L m H xs vs) (b : RepL Γ L m H ys ws) : RepL Γ L m H (xs ++ ys) (vs ++ ws) := by
  induction xs generalizing vs with
  | nil => cases vs with
    | nil => exact b
    | cons _ _ => exact a.elim
  | cons x xs ih => cases vs with
    | nil => exact a.elim
    | cons v vs => exact ⟨a.1, ih a.2⟩
def RepKey : Vl → Key → Prop
  | .int i, k => k = .inl i
  | .str s, k => k = .inr ⟨s.toArray⟩
  | _, _ => False
def RepKs (Γ : Gm) (L m : List Addr) (H : Hp) : List (Vl × Vl) → List (Key × V) → Prop
  | [], [] => True
  | (a, x) :: r, (k, u) :: s => RepKey a k ∧ RepV Γ L m H x u ∧ RepKs Γ L m H r s
  | _, _ => False
def RepO (Γ : Gm) (L m : List Addr) (H : Hp) : Ob → Addr → Prop
  | .lst xs, a => ∃ us, H a = some (.lst us) ∧ RepL Γ L m H xs us
  | .dct kvs, a => ∃ us, H a = some (.dK us) ∧ RepKs Γ L m H kvs us
  | .ins c xs, a => ∃ dx vs, SlAt H a (Γ.ca c) dx vs ∧ dx ∉ m ∧ dx ∉ L ∧ ∀ (i : Nat) (x : Vl), xs[i]? = some (some x) → ∃ u, vs[i]? = some (some u) ∧ RepV Γ L m H x u
structure RepH (Γ : Gm) (L m : List Addr) (h : Hh) (H : Hp) : Prop where
  len : m.length = h.length
  nd : m.Nodup
  ap : ∀ a ∈ m, a ∉ L
  ob : ∀ (i : Nat) (a : Addr) (o : Ob), m[i]? = some a → h[i]? = some o → RepO Γ L m H o a
  res : ∀ a ∈ L, ∃ us, H a = some (.lst us)
theorem RepKs.map {Γ : Gm} {L m L1 m1 : List Addr} {H H1 : Hp} (f : ∀ x u, RepV Γ L m H x u → RepV Γ L1 m1 H1 x u) : ∀ {kvs : List (Vl × Vl)} {us : List (Key × V)}, RepKs Γ L m H kvs us → RepKs Γ L1 m1 H1 kvs us
  | [], [], _ => trivial
  | (_, _) :: _, (_, _) :: _, h => ⟨h.1, f _ _ h.2.1, RepKs.map f h.2.2⟩
  | [], _ :: _, h => h.elim
  | _ :: _, [], h => h.elim
theorem RepO.there {o : Ob} {a : Addr} (h : RepO Γ L m H o a) : ∃ u, H a = some u ∧ (∀ us, u ≠ .tup us) ∧ (∀ b us, u ≠ .frz b us) ∧ ∀ x, u ≠ .own x := by
  cases o with
  | lst xs => obtain ⟨us, e, _⟩ := h; exact ⟨_, e, fun _ z => (nomatch z), fun _ _ z => (nomatch z), fun _ z => (nomatch z)⟩
  | dct kvs => obtain ⟨us, e, _⟩ := h; exact ⟨_, e, fun _ z => (nomatch z), fun _ _ z => (nomatch z), fun _ z => (nomatch z)⟩
  | ins c xs =>
    obtain ⟨dx, vs, e, _⟩ := h
    rcases e.2.2 with e | ⟨_, e⟩
    · exact ⟨_, e, fun _ z => (by unfold SlO at z; cases z), fun _ _ z => (by unfold SlO at z; cases z), fun _ z => (by unfold SlO at z; cases z)⟩
    · exact ⟨_, e, fun _ z => (nomatch z), fun _ _ z => (nomatch z), fun _ z => (nomatch z)⟩
theorem RepO.grow {o : Ob} {a : Addr} (g : Grow m H m1 H1) (e : H1 a = H a) (h : RepO Γ L m H o a) : RepO Γ L m1 H1 o a := by
  cases o with
  | lst xs => obtain ⟨us, q, r⟩ := h; exact ⟨us, e.trans q, RepL.grow g r⟩
  | dct kvs => obtain ⟨us, q, r⟩ := h; exact ⟨us, e.trans q, r.map fun _ _ => RepV.grow g⟩
  | ins c xs =>
    obtain ⟨dx, vs, q, n1, n2, f⟩ := h
    refine ⟨dx, vs, ⟨g.own _ _ q.1, q.2.1, ?_⟩, g.out q.1 n1, n2, fun i x hx => ?_⟩
    · rw [e]
      exact q.2.2
    · obtain ⟨u, h1, h2⟩ := f i x hx
      exact ⟨u, h1, h2.grow g⟩
theorem RepO.map {L1 m2 : List Addr} {o : Ob} {a : Addr} (f : ∀ x u, RepV Γ L m H x u → RepV Γ L1 m2 H1 x u) (fl : ∀ xs us, RepL Γ L m H xs us → RepL Γ L1 m2 H1 xs us) (e : H1 a = H a)
    (fs : ∀ C dx vs, SlAt H a C dx vs → dx ∉ m → dx ∉ L → SlAt H1 a C dx vs ∧ dx ∉ m2 ∧ dx ∉ L1) (h : RepO Γ L m H o a) : RepO Γ L1 m2 H1 o a := by
  cases o with
  | lst xs => obtain ⟨us, q, r⟩ := h; exact ⟨us, e.trans q, fl _ _ r⟩
  | dct kvs => obtain ⟨us, q, r⟩ := h; exact ⟨us, e.trans q, r.map f⟩
  | ins c xs =>
    obtain ⟨dx, vs, q, n1, n2, g⟩ := h
    obtain ⟨q', n1', n2'⟩ := fs _ _ _ q n1 n2
    refine ⟨dx, vs, q', n1', n2', fun i x hx => ?_⟩
    obtain ⟨u, h1, h2⟩ := g i x hx
    exact ⟨u, h1, f _ _ h2⟩
theorem RepH.at_ {h : Hh} (r : RepH Γ L m h H) {n : Nat} {a : Addr} {o : Ob} (e : m[n]? = some a) (q : h[n]? = some o) : RepO Γ L m H o a := r.ob n a o e q
theorem RepH.addr {h : Hh} (r : RepH Γ L m h H) {n : Nat} {o : Ob} (q : h[n]? = some o) : ∃ a, m[n]? = some a ∧ RepO Γ L m H o a := by
  have hl := (List.getElem?_eq_some_iff.mp q).1
  rw [← r.len] at hl
  exact ⟨m[n], List.getElem?_eq_getElem hl, r.ob n _ o (List.getElem?_eq_getElem hl) q⟩
theorem RepH.there {h : Hh} (r : RepH Γ L m h H) {a : Addr} (ha : a ∈ m) : ∃ o, H a = some o ∧ (∀ us, o ≠ .tup us) ∧ (∀ b us, o ≠ .frz b us) ∧ ∀ x, o ≠ .own x := by
  obtain ⟨i, hi, e⟩ := List.getElem_of_mem ha
  have hl : i < h.length := by rw [← r.len]; exact hi
  exact (r.ob i a h[i] (by rw [← e]; exact List.getElem?_eq_getElem hi) (List.getElem?_eq_getElem hl)).there
theorem RepH.tracked {h : Hh} (r : RepH Γ L m h H) : ∀ x ∈ m, ∃ o, H x = some o := fun x hx => let ⟨o, e, _⟩ := r.there hx; ⟨o, e⟩
theorem Grow.fresh {p : Addr} {o : HO} (hp : H p = none) : Grow m H m (upd H p o) where
  ext := ⟨[], by simp, fun _ h => nomatch h⟩
  keep := fun a u e _ => by rw [upd_ne (ne_of_none e hp)]; exact e
  tup := fun a u e => by rw [upd_ne (ne_of_none e hp)]; exact e
  frz := fun a u v e => by rw [upd_ne (ne_of_none e hp)]; exact e
  own := fun a u e => by rw [upd_ne (ne_of_none e hp)]; exact e
theorem RepH.fresh {h : Hh} {p : Addr} {o : HO} (r : RepH Γ L m h H) (hp : H p = none) : RepH Γ L m h (upd H p o) where
  len := r.len
  nd := r.nd
  ap := r.ap
  ob := fun i a u e q => by
    have x := r.ob i a u e q
    obtain ⟨v, hv, _⟩ := x.there
    exact x.grow (Grow.fresh hp) (upd_ne (ne_of_none hv hp))
  res := fun a ha => by
    obtain ⟨us, e⟩ := r.res a ha
    exact ⟨us, by rw [upd_ne (ne_of_none e hp)]; exact e⟩
theorem Grow.alloc {p : Addr} {o : HO} (hp : H p = none) : Grow m H (m ++ [p]) (upd H p o) where
  ext := ⟨[p], rfl, fun a h => by rw [List.mem_singleton.mp h]; exact hp⟩
  keep := fun a u e _ => by rw [upd_ne (ne_of_none e hp)]; exact e
  tup := fun a u e => by rw [upd_ne (ne_of_none e hp)]; exact e
  frz := fun a u v e => by rw [upd_ne (ne_of_none e hp)]; exact e
  own := fun a u e => by rw [upd_ne (ne_of_none e hp)]; exact e
theorem Grow.write {h : Hh} {n : Nat} {a : Addr} {o : HO} (r : RepH Γ L m h H) (e : m[n]? = some a) : Grow m H m (upd H a o) := by
  have ha : a ∈ m := List.mem_of_getElem? e
  obtain ⟨u, hu, n1, n2, n3⟩ := r.there ha
  have ne : ∀ b v, H b = some v → (v ≠ u) → b ≠ a := fun b v hb hv z => by
    rw [z, hu] at hb
    exact hv (Option.some.inj hb).symm
  exact ⟨⟨[], by simp, fun _ h => nomatch h⟩, fun b v hb hn => by rw [upd_ne (show b ≠ a from fun z => hn (by rw [z]; exact ha))]; exact hb, fun b us hb => by rw [upd_ne (ne b _ hb (n1 us).symm)]; exact hb,
    fun b v us hb => by rw [upd_ne (ne b _ hb (n2 v us).symm)]; exact hb, fun b x hb => by rw [upd_ne (ne b _ hb (n3 x).symm)]; exact hb⟩
theorem RepH.write {h : Hh} {n : Nat} {a : Addr} {o : HO} {ob : Ob} (r : RepH Γ L m h H) (e : m[n]? = some a) (hn : n < h.length) (q : RepO Γ L m (upd H a o) ob a) : RepH Γ L m (h.set n ob) (upd H a o) where
  len := by rw [List.length_set]; exact r.len
  nd := r.nd
  ap := r.ap
  ob := fun i b u e1 e2 => by
    by_cases hi : i = n
    · subst hi
      rw [e] at e1
      cases e1
      rw [List.getElem?_set_self hn] at e2
      cases e2
      exact q
    · rw [List.getElem?_set_ne (Ne.symm hi)] at e2
      have nb : b ≠ a := fun z => hi (by
        subst z
        have h1 := (List.getElem?_eq_some_iff.mp e1)
        have h2 := (List.getElem?_eq_some_iff.mp e)
        exact (List.getElem_inj r.nd).mp (h1.2.trans h2.2.symm))
      exact (r.ob i b u e1 e2).grow (Grow.write r e) (upd_ne nb)
  res := fun b hb => by
    obtain ⟨us, z⟩ := r.res b hb
    exact ⟨us, by rw [upd_ne (show b ≠ a from fun w => r.ap a (List.mem_of_getElem? e) (by rw [← w]; exact hb))]; exact z⟩
theorem RepH.moved {h : Hh} {D : Addr} {xs : List Vl} {us : List V} (r : RepH Γ (D :: L) m h H) (nD : D ∉ m) (nL : D ∉ L) (e : H D = some (.lst us)) (q : RepL Γ (D :: L) m H xs us) : RepH Γ L (m ++ [D]) (h ++ [.lst xs]) H where
  len := by rw [List.length_append, List.length_append, r.len]; rfl
  nd := by
    rw [List.nodup_append]
    refine ⟨r.nd, by simp, fun a ha b hb z => ?_⟩
    rw [List.mem_singleton.mp hb] at z
    exact nD (z ▸ ha)
  ap := fun a ha => by
    rcases List.mem_append.mp ha with ha | ha
    · exact fun z => r.ap a ha (List.mem_cons_of_mem _ z)
    · rw [List.mem_singleton.mp ha]
      exact nL
  ob := fun i a o e1 e2 => by
    by_cases hi : i < m.length
    · rw [List.getElem?_append_left hi] at e1
      rw [List.getElem?_append_left (by rw [← r.len]; exact hi)] at e2
      refine (r.ob i a o e1 e2).map (fun _ _ => RepV.moved) (fun _ _ => RepL.moved) rfl (fun C dx vs s n1 n2 => ⟨s, fun z => ?_, fun z => n2 (List.mem_cons_of_mem _ z)⟩)
      rcases List.mem_append.mp z with z | z
      · exact n1 z
      · exact n2 (List.mem_cons.mpr (.inl (List.mem_singleton.mp z)))
    · have hm : i = m.length := by
        have := (List.getElem?_eq_some_iff.mp e1).1
        rw [List.length_append, List.length_singleton] at this
        omega
      subst hm
      rw [List.getElem?_append_right (Nat.le_refl _), Nat.sub_self] at e1
      rw [r.len, List.getElem?_append_right (Nat.le_refl _), Nat.sub_self] at e2
      cases e1
      cases e2
      exact ⟨us, e, q.moved⟩
  res := fun a ha => r.res a (List.mem_cons_of_mem _ ha)
theorem RepH.joined {h : Hh} {D : Addr} (r : RepH Γ (D :: L) m h H) : RepH Γ L m h H where
  len := r.len
  nd := r.nd
  ap := fun a ha z => r.ap a ha (List.mem_cons_of_mem _ z)
  ob := fun i a o e1 e2 => (r.ob i a o e1 e2).map (fun _ _ => RepV.joined) (fun _ _ => RepL.joined) rfl fun C dx vs s n1 n2 => ⟨s, n1, fun z => n2 (List.mem_cons_of_mem _ z)⟩
  res := fun a ha => r.res a (List.mem_cons_of_mem _ ha)
theorem RepH.reserve {h : Hh} {D : Addr} {us : List V} (r : RepH Γ L m h H) (hD : H D = none) : RepH Γ (D :: L) m h (upd H D (.lst us)) where
  len := r.len
  nd := r.nd
  ap := fun a ha z => by
    rcases List.mem_cons.mp z with z | z
    · obtain ⟨o, e⟩ := r.tracked a ha
      exact ne_of_none e hD z
    · exact r.ap a ha z
  ob := fun i a o e1 e2 => by
    have x := r.ob i a o e1 e2
    obtain ⟨v, hv, _⟩ := x.there
    refine x.map (fun x u z => (z.apart hD).grow (Grow.fresh hD)) (fun xs us z => (z.apart hD).grow (Grow.fresh hD)) (upd_ne (ne_of_none hv hD)) (fun C dx vs s n1 n2 => ⟨⟨?_, s.2.1, ?_⟩, n1, fun z => ?_⟩)
    · rw [upd_ne (ne_of_none s.1 hD)]
      exact s.1
    · rcases s.2.2 with e | ⟨e1, e⟩
      · exact .inl (by rw [upd_ne (ne_of_none e hD)]; exact e)
      · exact .inr ⟨e1, by rw [upd_ne (ne_of_none e hD)]; exact e⟩
    · rcases List.mem_cons.mp z with z | z
      · exact ne_of_none s.1 hD z
      · exact n2 z
  res := fun a ha => by
    rcases List.mem_cons.mp ha with z | z
    · exact ⟨us, by rw [z, upd_same]⟩
    · obtain ⟨ws, e⟩ := r.res a z
      exact ⟨ws, by rw [upd_ne (ne_of_none e hD)]; exact e⟩
end
end Mi
set_option Elab.async false
set_option linter.all false
set_option maxRecDepth 100000
set_option maxHeartbeats 4000000
namespace Mi
open PySem L2
def okV (Γ : Gm) (L m : List Addr) (H : Hp) (h : Hh) (v : Vl) (Q : VK) : Prop := ∀ m' H' u, Grow m H m' H' → RepH Γ L m' h H' → RepV Γ L m' H' v u → Q u H'
section
variable {Γ : Gm} {L m : List Addr} {H : Hp} {h : Hh} {v : Vl} {Q : VK}
theorem okV.now {u : V} (k : okV Γ L m H h v Q) (r : RepH Γ L m h H) (e : RepV Γ L m H v u) : Q u H := k m H u (Grow.refl m H) r e
theorem okV.new {p : Addr} {o : HO} {u : V} (k : okV Γ L m H h v Q) (r : RepH Γ L m h H) (hp : H p = none) (e : RepV Γ L m (upd H p o) v u) : Q u (upd H p o) := k m _ u (Grow.fresh hp) (r.fresh hp) e
theorem RepL.grow' {m' : List Addr} {H' : Hp} {xs : List Vl} {us : List V} (g : Grow m H m' H') (r : RepL Γ L m H xs us) : RepL Γ L m' H' xs us := RepL.grow g r
theorem okV.newT {p : Addr} {xs : List Vl} {us : List V} (k : okV Γ L m H h (.tup xs) Q) (r : RepH Γ L m h H) (hp : H p = none) (e : RepL Γ L m H xs us) : Q (.ref p) (upd H p (.tup us)) :=
  k.new r hp ⟨p, us, rfl, .inl (.inl upd_same), RepL.grow (Grow.fresh hp) e⟩
theorem RepH.out {p : Addr} (r : RepH Γ L m h H) (hp : H p = none) : p ∉ m ∧ p ∉ L := by
  refine ⟨fun z => ?_, fun z => ?_⟩
  · obtain ⟨o, e⟩ := r.tracked p z
    rw [hp] at e
    cases e
  · obtain ⟨us, e⟩ := r.res p z
    rw [hp] at e
    cases e
theorem okV.newL {p : Addr} {xs : List Vl} {us : List V} (k : okV Γ L m H h (.lst xs) Q) (r : RepH Γ L m h H) (hp : H p = none) (e : RepL Γ L m H xs us) : Q (.ref p) (upd H p (.lst us)) :=
  k.new r hp ⟨p, us, rfl, upd_same, (r.out hp).1, (r.out hp).2, RepL.grow (Grow.fresh hp) e⟩
end
def bo : BO → Operator
  | .add => .Add | .sub => .Sub | .mul => .Mult | .fdiv => .FloorDiv | .mod => .Mod | .pow => .Pow | .shl => .LShift | .shr => .RShift | .and => .BitAnd | .or => .BitOr | .xor => .BitXor
theorem natOf_some {i : Int} {n : Nat} (e : natOf i = some n) : i = (n : Int) := by
  cases i with
  | ofNat k => cases Option.some.inj e; rfl
  | negSucc k => cases e
theorem line_eq : line = sizeLine := by rw [sizeLine_eq]; rfl
theorem intOp {X : Cx} (o : BO) {i j k : Int} (e : binI o i j = some k) {t u : Tok} {Q : Value → Shared → Prop} {E : Value → Shared → Prop} {s : Shared} (h : Q (.int k s.toks) { s with toks := s.toks + 1 }) :
    wpAny (model X.prog X.w) X.A (binaryOp (bo o) (.int i t) (.int j u)) Q E s ∧ wpAny (model X.prog X.w) X.A (inplaceOp (bo o) (.int i t) (.int j u)) Q E s := by
  cases o with
  | add => cases Option.some.inj e; exact ⟨PyProof.Rows.add_int h, PyProof.Rows.iadd_int h⟩
  | sub => cases Option.some.inj e; exact ⟨PyProof.Rows.sub_int h, PyProof.Rows.isub_int h⟩
  | mul =>
    have e' : (if i.natAbs.log2 + j.natAbs.log2 < 1000000 ∨ (-18446744073709551616 < i ∧ i < 18446744073709551616) ∨ (-18446744073709551616 < j ∧ j < 18446744073709551616) then some (i * j) else none) = some k := e
    split at e'
    · rename_i hc
      cases Option.some.inj e'
      have hm : IntMulOk i j := by
        rcases hc with hc | hc
        · exact CMulW.ok (i := i) (j := j) hc
        · exact CMul.ok (show (-(2 ^ 64) < i ∧ i < 2 ^ 64) ∨ (-(2 ^ 64) < j ∧ j < 2 ^ 64) by omega)
      exact ⟨PyProof.Rows.mul_int h hm, PyProof.Rows.imul_int h hm⟩
    · cases e'
  | fdiv =>
    have e' : (if 0 < j then (if j.natAbs.log2 < 9000 then some (i / j) else none) else none) = some k := e
    split at e'
    · rename_i h1
      split at e'
      · rename_i h2
        cases Option.some.inj e'
        rw [← Int.fdiv_eq_ediv_of_nonneg i (by omega)] at h
        exact ⟨PyProof.Rows.floordiv_int (by omega) h (.inl (PyProof.noPylong_of_log2 h2)), PyProof.Rows.ifloordiv_int (by omega) h (.inl (PyProof.noPylong_of_log2 h2))⟩
      · cases e'
    · cases e'
  | mod =>
    have e' : (if 0 < j then some (i % j) else none) = some k := e
    split at e'
    · rename_i h1
      cases Option.some.inj e'
      rw [← Int.fmod_eq_emod_of_nonneg i (by omega)] at h
      exact ⟨PyProof.Rows.mod_int' (by omega) h, PyProof.Rows.imod_int (by omega) h⟩
    · cases e'
  | pow =>
    have e' : (match natOf j with
      | some m => if (i.natAbs.log2 + 1) * m < 100000 then some (i ^ m) else none
      | none => none) = some k := e
    split at e'
    · rename_i m hm
      obtain rfl := natOf_some hm
      split at e'
      · rename_i hc
        cases Option.some.inj e'
        have hb : (Builtin.Int.intBits i : Int) * (m : Int) ≤ 2 ^ 27 := by
          have h1 : Builtin.Int.intBits i ≤ i.natAbs.log2 + 1 := by
            unfold Builtin.Int.intBits
            split <;> omega
          have h2 : Builtin.Int.intBits i * m ≤ (i.natAbs.log2 + 1) * m := Nat.mul_le_mul_right _ h1
          have h3 : ((Builtin.Int.intBits i * m : Nat) : Int) ≤ 100000 := by omega
          rw [Int.natCast_mul] at h3
          exact Int.le_trans h3 (by decide)
        exact ⟨PyProof.Rows.pow_int (by omega) hb h, PyProof.Rows.ipow_int (by omega) hb h⟩
      · cases e'
    · cases e'
  | shl =>
    have e' : (match natOf j with
      | some m => if i.natAbs.log2 + m < 100000 then some (i * 2 ^ m) else none
      | none => none) = some k := e
    split at e'
    · rename_i m hm
      obtain rfl := natOf_some hm
      split at e'
      · rename_i hc
        cases Option.some.inj e'
        have hb : (Builtin.Int.intBits i : Int) + (m : Int) ≤ 2 ^ 27 := by
          have h1 : Builtin.Int.intBits i ≤ i.natAbs.log2 + 1 := by
            unfold Builtin.Int.intBits
            split <;> omega
          have h3 : ((Builtin.Int.intBits i + m : Nat) : Int) ≤ 100001 := by omega
          rw [Int.natCast_add] at h3
          exact Int.le_trans h3 (by decide)
        exact ⟨PyProof.Rows.lshift_int (by omega) hb h, PyProof.Rows.ilshift_int (by omega) hb h⟩
      · cases e'
    · cases e'
  | shr =>
    have e' : (match natOf j with
      | some m => some (i / 2 ^ m)
      | none => none) = some k := e
    split at e'
    · rename_i m hm
      obtain rfl := natOf_some hm
      cases Option.some.inj e'
      have h' : Q (.int (i.fdiv (2 ^ (m : Int).toNat)) s.toks) { s with toks := s.toks + 1 } := by
        rw [Int.fdiv_eq_ediv_of_nonneg i (two_pow_nn _)]
        exact h
      exact ⟨PyProof.Rows.rshift_int (by omega) h', PyProof.Rows.irshift_int (by omega) h'⟩
    · cases e'
  | and =>
    have e' : (match natOf i with
      | some a => match natOf j with
        | some b => some (Int.ofNat (a &&& b))
        | none => none
      | none => none) = some k := e
    split at e'
    · rename_i a ha
      obtain rfl := natOf_some ha
      split at e'
      · rename_i b hb
        obtain rfl := natOf_some hb
        cases Option.some.inj e'
        have h' : Q (.int (Builtin.bitAnd (a : Int) (b : Int)) s.toks) { s with toks := s.toks + 1 } := by
          rw [PyProof.Rows.bitAnd_pp (by omega) (by omega)]
          exact h
        exact ⟨PyProof.Rows.and_int h', PyProof.Rows.iand_int h'⟩
      · cases e'
    · cases e'
  | or =>
    have e' : (match natOf i with
      | some a => match natOf j with
        | some b => some (Int.ofNat (a ||| b))
        | none => none
      | none => none) = some k := e
    split at e'
    · rename_i a ha
      obtain rfl := natOf_some ha
      split at e'
      · rename_i b hb
        obtain rfl := natOf_some hb
        cases Option.some.inj e'
        have h' : Q (.int (Builtin.bitOr (a : Int) (b : Int)) s.toks) { s with toks := s.toks + 1 } := by
          rw [Bits.bitOr_pp (by omega) (by omega)]
          exact h
        exact ⟨PyProof.Rows.or_int h', PyProof.Rows.ior_int h'⟩
      · cases e'
    · cases e'
  | xor =>
    have e' : (match natOf i with
      | some a => match natOf j with
        | some b => some (Int.ofNat (a ^^^ b))
        | none => none
      | none => none) = some k := e
    split at e'
    · rename_i a ha
      obtain rfl := natOf_some ha
      split at e'
      · rename_i b hb
        obtain rfl := natOf_some hb
        cases Option.some.inj e'
        have h' : Q (.int (Builtin.bitXor (a : Int) (b : Int)) s.toks) { s with toks := s.toks + 1 } := by
          rw [Bits.bitXor_pp (by omega) (by omega)]
          exact h
        exact ⟨PyProof.Rows.xor_int h', PyProof.Rows.ixor_int h'⟩
      · cases e'
    · cases e'
def rV (Γ : Gm) (f : Hh → Vl → Vl → Option Vl) : R2 := fun x y H Q => ∃ L m h a b v, RepH Γ L m h H ∧ RepV Γ L m H a x ∧ RepV Γ L m H b y ∧ f h a b = some v ∧ okV Γ L m H h v Q
theorem rep_flat {xs : List Vl} {us : List V} {Γ : Gm} {L m : List Addr} {H : Hp} (r : RepL Γ L m H xs us) : ∀ k : Nat, RepL Γ L m H (List.replicate k xs).flatten (List.replicate k us).flatten
  | 0 => trivial
  | k + 1 => by
    rw [List.replicate_succ, List.replicate_succ, List.flatten_cons, List.flatten_cons]
    exact r.append (rep_flat r k)
theorem strs_app (a b : List Nat) : (⟨a.toArray⟩ : Str) ++ (⟨b.toArray⟩ : Str) = ⟨(a ++ b).toArray⟩ := by
  show (⟨a.toArray ++ b.toArray⟩ : Str) = _
  rw [List.append_toArray]
theorem RepL.nil_iff {Γ : Gm} {L m : List Addr} {H : Hp} {xs : List Vl} {us : List V} (r : RepL Γ L m H xs us) : xs = [] ↔ us = [] := by
  have := r.length
  constructor
  · intro e
    subst e
    exact List.eq_nil_of_length_eq_zero this.symm
  · intro e
    subst e
    exact List.eq_nil_of_length_eq_zero this
theorem op_binV {X : Cx} {Γ : Gm} (C : X.K = Γ.K) (o : BO) : OpR X (binaryOp (bo o)) (rV Γ (binV o)) := by
  intro pins s σ H x y v u Q I rx ry hq
  obtain ⟨L, m, h, a, b, z, rh, ra, rb, e, k⟩ := hq
  have ls := line_eq
  unfold binV at e
  split at e
  · rename_i i j
    have e1 : x = .int i := ra
    have e2 : y = .int j := rb
    subst e1 e2
    obtain ⟨t, rfl⟩ := rx
    obtain ⟨t', rfl⟩ := ry
    split at e
    · rename_i k' hk
      cases Option.some.inj e
      exact (intOp o hk ⟨.int k', H, I.tok _, ⟨_, rfl⟩, k.now rh rfl⟩).1
    · cases e
  · rename_i i j
    have e1 : x = .str ⟨i.toArray⟩ := ra
    have e2 : y = .str ⟨j.toArray⟩ := rb
    split at e
    · split at e
      · rename_i hz
        cases Option.some.inj e
        refine op_add_str pins s σ H x y v u Q I rx ry ⟨_, _, e1, e2, ?_, ?_⟩
        · show i.toArray.size + j.toArray.size ≤ sizeLine
          rw [← ls]
          simpa using hz
        · rw [strs_app]
          exact k.now rh rfl
      · cases e
    · cases e
  · rename_i i j
    obtain ⟨a1, us, e1, q1, r1⟩ := ra
    obtain ⟨a2, ws, e2, q2, r2⟩ := rb
    split at e
    · split at e
      · rename_i hz
        cases Option.some.inj e
        have l1 := r1.length
        have l2 := r2.length
        refine op_catA pins s σ H x y v u Q I rx ry ⟨a1, a2, us, ws, e1, e2, by rw [C]; exact q1, by rw [C]; exact q2, by rw [← l1, ← l2, ← ls]; exact hz, fun n => ?_, fun n n2 => ?_, fun n n2 p hp => ?_⟩
        · have := r1.nil_iff.mpr n
          subst this
          exact k.now rh ⟨a2, ws, rfl, q2, r2⟩
        · have := r2.nil_iff.mpr n2
          subst this
          rw [List.append_nil] at k
          exact k.now rh ⟨a1, us, rfl, q1, r1⟩
        · exact k.newT rh hp (r1.append r2)
      · cases e
    · cases e
  · rename_i i j
    obtain ⟨a1, us, e1, q1, r1⟩ := ra
    have e2 : y = .int j := rb
    split at e
    · split at e
      · split at e
        · split at e
          · split at e
            · cases e
            · rename_i h1 h2 h3 h4
              cases Option.some.inj e
              have l1 := r1.length
              refine op_repT pins s σ H x y v u Q I rx ry ⟨a1, j, us, e1, e2, by rw [C]; exact q1, fun n => h4 ?_, h1, h2, by rw [← l1]; exact h3, fun p hp => ?_⟩
              · rw [r1.nil_iff.mpr n]
                rfl
              · exact k.newT rh hp (rep_flat r1 _)
          · cases e
        · cases e
      · cases e
    · cases e
  · cases e
theorem op_augV {X : Cx} {Γ : Gm} (o : BO) : OpR X (inplaceOp (bo o)) (rV Γ (augV o)) := by
  intro pins s σ H x y v u Q I rx ry hq
  obtain ⟨L, m, h, a, b, z, rh, ra, rb, e, k⟩ := hq
  have ls := line_eq
  unfold augV at e
  split at e
  · rename_i i j
    have e1 : x = .int i := ra
    have e2 : y = .int j := rb
    subst e1 e2
    obtain ⟨t, rfl⟩ := rx
    obtain ⟨t', rfl⟩ := ry
    split at e
    · rename_i k' hk
      cases Option.some.inj e
      exact (intOp o hk ⟨.int k', H, I.tok _, ⟨_, rfl⟩, k.now rh rfl⟩).2
    · cases e
  · rename_i i j
    have e1 : x = .str ⟨i.toArray⟩ := ra
    have e2 : y = .str ⟨j.toArray⟩ := rb
    split at e
    · split at e
      · rename_i hz
        cases Option.some.inj e
        refine iop_add_str pins s σ H x y v u Q I rx ry ⟨_, _, e1, e2, ?_, ?_⟩
        · show i.toArray.size + j.toArray.size ≤ sizeLine
          rw [← ls]
          simpa using hz
        · rw [strs_app]
          exact k.now rh rfl
      · cases e
    · cases e
  · cases e
def okN (Γ : Gm) (L m : List Addr) (H : Hp) (h : Hh) (xs : List Vl) (Q : VK) : Prop :=
  ∀ m' H' D us, Grow m H m' H' → H D = none → D ∉ m' → D ∉ L → H' D = some (.lst us) → RepL Γ (D :: L) m' H' xs us → RepH Γ (D :: L) m' h H' → Q (.ref D) H'
theorem okN.new {Γ : Gm} {L m : List Addr} {H : Hp} {h : Hh} {xs : List Vl} {Q : VK} (k : okN Γ L m H h xs Q) (r : RepH Γ L m h H) {p : Addr} {us : List V} (hp : H p = none) (e : RepL Γ L m H xs us) : Q (.ref p) (upd H p (.lst us)) :=
  k m _ p us (Grow.fresh hp) hp (r.out hp).1 (r.out hp).2 upd_same ((e.apart hp).grow' (Grow.fresh hp)) (r.reserve hp)
def rN (Γ : Gm) (f : Hh → Vl → Vl → Option (List Vl)) : R2 := fun x y H Q => ∃ L m h a b xs, RepH Γ L m h H ∧ RepV Γ L m H a x ∧ RepV Γ L m H b y ∧ f h a b = some xs ∧ okN Γ L m H h xs Q
theorem lstOf_rep {Γ : Gm} {L m : List Addr} {H : Hp} {h : Hh} {a : Vl} {xs : List Vl} {x : V} (rh : RepH Γ L m h H) (r : RepV Γ L m H a x) (e : lstOf h a = some xs) : ∃ p us, x = .ref p ∧ H p = some (.lst us) ∧ RepL Γ L m H xs us := by
  unfold lstOf at e
  split at e
  · cases Option.some.inj e
    obtain ⟨p, us, e1, q, _, _, rr⟩ := r
    exact ⟨p, us, e1, q, rr⟩
  · rename_i n
    obtain ⟨p, e1, q⟩ := r
    split at e
    · rename_i ys hy
      cases Option.some.inj e
      obtain ⟨us, e2, rr⟩ := rh.at_ q hy
      exact ⟨p, us, e1, e2, rr⟩
    · cases e
  · cases e
theorem seqOf_rep {Γ : Gm} {L m : List Addr} {H : Hp} {h : Hh} {a : Vl} {xs : List Vl} {x : V} (rh : RepH Γ L m h H) (r : RepV Γ L m H a x) (e : seqOf h a = some xs) : ∃ p us, x = .ref p ∧ (SqL Γ.K H p us ∨ SqT Γ.K H p us) ∧ RepL Γ L m H xs us := by
  unfold seqOf at e
  split at e
  · cases Option.some.inj e
    obtain ⟨p, us, e1, q, rr⟩ := r
    exact ⟨p, us, e1, .inr q, rr⟩
  · cases Option.some.inj e
    obtain ⟨p, us, e1, q, _, _, rr⟩ := r
    exact ⟨p, us, e1, .inl (SqL.of q), rr⟩
  · cases Option.some.inj e
    obtain ⟨p, us, e1, q, rr⟩ := r
    refine ⟨p, us, e1, .inl ?_, rr⟩
    rcases q with ⟨o, q⟩ | q
    · exact .inl (.inr ⟨o, q⟩)
    · exact .inr q
  · rename_i n
    obtain ⟨p, e1, q⟩ := r
    split at e
    · rename_i ys hy
      cases Option.some.inj e
      obtain ⟨us, e2, rr⟩ := rh.at_ q hy
      exact ⟨p, us, e1, .inl (SqL.of e2), rr⟩
    · cases e
  · cases e
theorem op_catV {X : Cx} {Γ : Gm} : OpR X (binaryOp .Add) (rN Γ catV) := by
  intro pins s σ H x y v u Q I rx ry hq
  obtain ⟨L, m, h, a, b, z, rh, ra, rb, e, k⟩ := hq
  unfold catV at e
  split at e
  · rename_i xs hx
    split at e
    · rename_i ys hy
      split at e
      · rename_i hz
        cases Option.some.inj e
        obtain ⟨p, us, e1, q1, r1⟩ := lstOf_rep rh ra hx
        obtain ⟨p2, ws, e2, q2, r2⟩ := lstOf_rep rh rb hy
        have l1 := r1.length
        have l2 := r2.length
        exact op_cat pins s σ H x y v u Q I rx ry ⟨p, p2, us, ws, e1, e2, q1, q2, by rw [← l1, ← l2, ← line_eq]; exact hz, fun D hD => k.new rh hD (r1.append r2)⟩
      · cases e
    · cases e
  · cases e
theorem op_repV {X : Cx} {Γ : Gm} : OpR X (binaryOp .Mult) (rN Γ repV) := by
  intro pins s σ H x y v u Q I rx ry hq
  obtain ⟨L, m, h, a, b, z, rh, ra, rb, e, k⟩ := hq
  unfold repV at e
  split at e
  · rename_i xs hx
    split at e
    · rename_i j
      have e2 : y = .int j := rb
      split at e
      · split at e
        · split at e
          · rename_i h1 h2 h3
            cases Option.some.inj e
            obtain ⟨p, us, e1, q1, r1⟩ := lstOf_rep rh ra hx
            have l1 := r1.length
            exact op_rep pins s σ H x y v u Q I rx ry ⟨p, j, us, e1, e2, q1, by omega, by omega, by rw [← l1, ← line_eq]; exact h1, fun D hD => k.new rh hD (rep_flat r1 _)⟩
          · cases e
        · cases e
      · cases e
    · cases e
  · cases e
end Mi
set_option Elab.async false
set_option linter.all false
set_option maxRecDepth 100000
set_option maxHeartbeats 4000000
namespace Mi
open PySem L2
mutual
def toPy : Vl → PyData
  | .non => .none
  | .bl b => .bool b
  | .int i => .int i
  | .str s => .str ⟨s.toArray⟩
  | .lst xs => .list (toPyL xs)
  | .tup xs => .tuple (toPyL xs)
  | _ => .none
def toPyL : List Vl → List PyData
  | [] => []
  | x :: r => toPy x :: toPyL r
end
theorem str_beq (x y : List Nat) : ((⟨x.toArray⟩ : Str) == (⟨y.toArray⟩ : Str)) = (x == y) := by
  rw [Bool.eq_iff_iff, beq_iff_eq, beq_iff_eq]
  constructor
  · intro e
    injection e with e
    exact congrArg Array.toList e
  · intro e
    rw [e]
mutual
theorem eqV_py : ∀ (a b : Vl) (n k : Nat), pl a n = true → pl b k = true → eqV a b = PyData.eqv (toPy a) (toPy b)
  | .non, b, n, k, _, h => by cases b <;> simp_all [eqV, toPy, PyData.eqv, pl]
  | .bl _, b, n, k, _, h => by cases b <;> simp_all [eqV, toPy, PyData.eqv, pl]
  | .int _, b, n, k, _, h => by cases b <;> simp_all [eqV, toPy, PyData.eqv, pl]
  | .str s, b, n, k, _, h => by
    cases b with
    | str t =>
      show (s == t) = ((⟨s.toArray⟩ : Str) == (⟨t.toArray⟩ : Str))
      exact (str_beq s t).symm
    | _ => simp_all [eqV, toPy, PyData.eqv, pl]
  | .lst xs, b, n, k, g, h => by
    cases b with
    | lst ys =>
      cases n with
      | zero => simp [pl] at g
      | succ n =>
        cases k with
        | zero => simp [pl] at h
        | succ k =>
          show eqL xs ys = PyData.eqvAll (toPyL xs) (toPyL ys)
          exact eqL_py xs ys n k g h
    | _ => simp_all [eqV, toPy, PyData.eqv, pl]
  | .tup xs, b, n, k, g, h => by
    cases b with
    | tup ys =>
      cases n with
      | zero => simp [pl] at g
      | succ n =>
        cases k with
        | zero => simp [pl] at h
        | succ k =>
          show eqL xs ys = PyData.eqvAll (toPyL xs) (toPyL ys)
          exact eqL_py xs ys n k g h
    | _ => simp_all [eqV, toPy, PyData.eqv, pl]
  | .scr _, _, _, _, g, _ => by simp [pl] at g
  | .dct _, _, _, _, g, _ => by simp [pl] at g
  | .ins _ _, _, _, _, g, _ => by simp [pl] at g
  | .ref _, _, _, _, g, _ => by simp [pl] at g
  | .fn _, _, _, _, g, _ => by simp [pl] at g
  | .clo _, _, _, _, g, _ => by simp [pl] at g
theorem eqL_py : ∀ (xs ys : List Vl) (n k : Nat), plL xs n = true → plL ys k = true → eqL xs ys = PyData.eqvAll (toPyL xs) (toPyL ys)
  | [], [], _, _, _, _ => rfl
  | [], _ :: _, _, _, _, _ => rfl
  | _ :: _, [], _, _, _, _ => rfl
  | x :: xs, y :: ys, n, k, g, h => by
    have g' : (match pl x n with | true => plL xs n | false => false) = true := g
    have h' : (match pl y k with | true => plL ys k | false => false) = true := h
    split at g'
    · rename_i g1
      split at h'
      · rename_i h1
        have e1 := eqV_py x y n k g1 h1
        have e2 := eqL_py xs ys n k g' h'
        show (match eqV x y with | true => eqL xs ys | false => false) = (PyData.eqv (toPy x) (toPy y) && PyData.eqvAll (toPyL xs) (toPyL ys))
        rw [← e1, ← e2]
        cases eqV x y <;> rfl
      · cases h'
    · cases g'
end
mutual
theorem shape_py : ∀ (a : Vl) (n : Nat), pl a n = true → PyData.canLay0 (toPy a) = true ∧ PyData.depth (toPy a) ≤ n
  | .non, n, _ => ⟨rfl, Nat.zero_le _⟩
  | .bl _, n, _ => ⟨rfl, Nat.zero_le _⟩
  | .int _, n, _ => ⟨rfl, Nat.zero_le _⟩
  | .str s, n, h => by
    refine ⟨?_, Nat.zero_le _⟩
    have h' : s.all (· < 0x110000) = true := h
    show PyData.strOk ⟨s.toArray⟩ = true
    unfold PyData.strOk
    simpa using h'
  | .lst xs, n, h => by
    cases n with
    | zero => simp [pl] at h
    | succ n =>
      obtain ⟨h1, h2⟩ := shapeL_py xs n h
      exact ⟨h1, Nat.succ_le_succ h2⟩
  | .tup xs, n, h => by
    cases n with
    | zero => simp [pl] at h
    | succ n =>
      obtain ⟨h1, h2⟩ := shapeL_py xs n h
      exact ⟨h1, Nat.succ_le_succ h2⟩
  | .scr _, _, g => by simp [pl] at g
  | .dct _, _, g => by simp [pl] at g
  | .ins _ _, _, g => by simp [pl] at g
  | .ref _, _, g => by simp [pl] at g
  | .fn _, _, g => by simp [pl] at g
  | .clo _, _, g => by simp [pl] at g
theorem shapeL_py : ∀ (xs : List Vl) (n : Nat), plL xs n = true → PyData.canLayAll0 (toPyL xs) = true ∧ PyData.depthAll (toPyL xs) ≤ n
  | [], _, _ => ⟨rfl, Nat.zero_le _⟩
  | x :: xs, n, g => by
    have g' : (match pl x n with | true => plL xs n | false => false) = true := g
    split at g'
    · rename_i g1
      obtain ⟨a1, a2⟩ := shape_py x n g1
      obtain ⟨b1, b2⟩ := shapeL_py xs n g'
      refine ⟨?_, ?_⟩
      · show (PyData.canLay0 (toPy x) && PyData.canLayAll0 (toPyL xs)) = true
        rw [a1, b1] <;> rfl
      · show max (PyData.depth (toPy x)) (PyData.depthAll (toPyL xs)) ≤ n
        omega
    · cases g'
end
section
variable {Γ : Gm} {L m : List Addr} {H : Hp}
mutual
theorem dp_py : ∀ {a : Vl} {n : Nat} {v : V}, pl a n = true → RepV Γ L m H a v → Dp Γ.K H v (toPy a)
  | .non, _, _, _, r => by cases (show _ = _ from r); exact .non
  | .bl _, _, _, _, r => by cases (show _ = _ from r); exact .bl _
  | .int _, _, _, _, r => by cases (show _ = _ from r); exact .int _
  | .str _, _, _, _, r => by cases (show _ = _ from r); exact .str _
  | .lst xs, n, v, h, r => by
    cases n with
    | zero => simp [pl] at h
    | succ n =>
      obtain ⟨a, us, e, q, _, _, rr⟩ := r
      subst e
      exact .lst (SqL.of q) (dpL_py h rr)
  | .tup xs, n, v, h, r => by
    cases n with
    | zero => simp [pl] at h
    | succ n =>
      obtain ⟨a, us, e, q, rr⟩ := r
      subst e
      exact .tup q (dpL_py h rr)
  | .scr _, _, _, g, _ => by simp [pl] at g
  | .dct _, _, _, g, _ => by simp [pl] at g
  | .ins _ _, _, _, g, _ => by simp [pl] at g
  | .ref _, _, _, g, _ => by simp [pl] at g
  | .fn _, _, _, g, _ => by simp [pl] at g
  | .clo _, _, _, g, _ => by simp [pl] at g
theorem dpL_py : ∀ {xs : List Vl} {n : Nat} {vs : List V}, plL xs n = true → RepL Γ L m H xs vs → DpAll Γ.K H vs (toPyL xs)
  | [], _, [], _, _ => .nil
  | [], _, _ :: _, _, r => r.elim
  | _ :: _, _, [], _, r => r.elim
  | x :: xs, n, v :: vs, g, r => by
    have g' : (match pl x n with | true => plL xs n | false => false) = true := g
    split at g'
    · rename_i g1
      exact .cons (dp_py g1 r.1) (dpL_py g' r.2)
    · cases g'
end
theorem dp_deref {h : Hh} {a : Vl} {v : V} {n : Nat} (rh : RepH Γ L m h H) (g : pl (deref h a) n = true) (r : RepV Γ L m H a v) : Dp Γ.K H v (toPy (deref h a)) := by
  unfold deref at g ⊢
  split at g
  · rename_i k
    obtain ⟨p, e, q⟩ := r
    subst e
    split at g
    · rename_i xs hx
      obtain ⟨us, e2, rr⟩ := rh.at_ q hx
      cases n with
      | zero => simp [pl] at g
      | succ n => exact .lst (SqL.of e2) (dpL_py g rr)
    · simp [pl] at g
  · exact dp_py g r
end
def rC (Γ : Gm) (f : Hh → Vl → Vl → Option Bool) : R2 := fun x y H Q => ∃ L m h a b c, RepH Γ L m h H ∧ RepV Γ L m H a x ∧ RepV Γ L m H b y ∧ f h a b = some c ∧ Q (.bl c) H
theorem pyEq_some {h : Hh} {x y : Vl} {c : Bool} (e : pyEq h x y = some c) : pl (deref h x) 20 = true ∧ pl (deref h y) 20 = true ∧ c = PyData.eqv (toPy (deref h x)) (toPy (deref h y)) := by
  unfold pyEq at e
  simp only at e
  split at e
  · rename_i h1
    split at e
    · rename_i h2
      exact ⟨h1, h2, by rw [← eqV_py _ _ _ _ h1 h2]; exact (Option.some.inj e).symm⟩
    · cases e
  · cases e
theorem shaped_pl {a : Vl} (h : pl a 20 = true) : SeqAt.shaped (toPy a) = true := by
  obtain ⟨h1, h2⟩ := shape_py a 20 h
  unfold SeqAt.shaped
  rw [h1, decide_eq_true (Nat.le_trans h2 (by decide))] <;> rfl
def co : CO → CmpOp
  | .eq => .Eq | .ne => .NotEq | .lt => .Lt | .le => .LtE | .gt => .Gt | .ge => .GtE | .is => .Is | .isnot => .IsNot | .isin => .In | .notin => .NotIn
theorem op_pyEq {X : Cx} {Γ : Gm} (C : X.K = Γ.K) (hu : X.A.units + 64 < cLine) : OpR X (compareOp .Eq) (rC Γ pyEq) := by
  intro pins s σ H x y v u Q I rx ry hq
  obtain ⟨L, m, h, a, b, c, rh, ra, rb, e, k⟩ := hq
  obtain ⟨p1, p2, rfl⟩ := pyEq_some e
  exact op_eqD hu pins s σ H x y v u Q I rx ry ⟨_, _, by rw [C]; exact dp_deref rh p1 ra, by rw [C]; exact dp_deref rh p2 rb, shaped_pl p1, shaped_pl p2, k⟩
theorem op_pyNe {X : Cx} {Γ : Gm} (C : X.K = Γ.K) (hu : X.A.units + 64 < cLine) : OpR X (compareOp .NotEq) (rC Γ (cmpV .ne)) := by
  intro pins s σ H x y v u Q I rx ry hq
  obtain ⟨L, m, h, a, b, c, rh, ra, rb, e, k⟩ := hq
  have e' : (match pyEq h a b with | some b => some (!b) | none => none) = some c := e
  split at e'
  · rename_i c' hc
    cases Option.some.inj e'
    obtain ⟨p1, p2, rfl⟩ := pyEq_some hc
    exact op_neD hu pins s σ H x y v u Q I rx ry ⟨_, _, by rw [C]; exact dp_deref rh p1 ra, by rw [C]; exact dp_deref rh p2 rb, shaped_pl p1, shaped_pl p2, k⟩
  · cases e'
section
variable {Γ : Gm} {L m : List Addr} {H : Hp}
theorem flat_rep {a : Vl} {v : V} (f : flat a = true) (r : RepV Γ L m H a v) : flatV v = true := by
  cases a with
  | non => cases (show _ = _ from r); rfl
  | bl _ => cases (show _ = _ from r); rfl
  | int _ => cases (show _ = _ from r); rfl
  | str _ => cases (show _ = _ from r); rfl
  | _ => simp [flat] at f
theorem flat_eq {a b : Vl} {v w : V} (f : flat a = true) (g : flat b = true) (r : RepV Γ L m H a v) (q : RepV Γ L m H b w) : Mi.eqV a b = L2.eqV v w := by
  cases a with
  | non => cases (show _ = _ from r); cases b <;> first | (cases (show _ = _ from q); rfl) | simp [flat] at g
  | bl _ => cases (show _ = _ from r); cases b <;> first | (cases (show _ = _ from q); rfl) | simp [flat] at g
  | int _ => cases (show _ = _ from r); cases b <;> first | (cases (show _ = _ from q); rfl) | simp [flat] at g
  | str s =>
    cases (show _ = _ from r)
    cases b with
    | str t =>
      cases (show _ = _ from q)
      exact (str_beq s t).symm
    | non => cases (show _ = _ from q); rfl
    | bl _ => cases (show _ = _ from q); rfl
    | int _ => cases (show _ = _ from q); rfl
    | _ => simp [flat] at g
  | _ => simp [flat] at f
theorem flat_all : ∀ {xs : List Vl} {us : List V}, xs.all flat = true → RepL Γ L m H xs us → us.all flatV = true
  | [], [], _, _ => rfl
  | [], _ :: _, _, r => r.elim
  | _ :: _, [], _, r => r.elim
  | x :: xs, u :: us, f, r => by
    rw [List.all_cons, Bool.and_eq_true] at f ⊢
    exact ⟨flat_rep f.1 r.1, flat_all f.2 r.2⟩
theorem inB_rep {x : Vl} {v : V} (fx : flat x = true) (rx : RepV Γ L m H x v) : ∀ {xs : List Vl} {us : List V}, xs.all flat = true → RepL Γ L m H xs us → inB x xs = inV v us
  | [], [], _, _ => rfl
  | [], _ :: _, _, r => r.elim
  | _ :: _, [], _, r => r.elim
  | y :: xs, u :: us, f, r => by
    rw [List.all_cons, Bool.and_eq_true] at f
    have ih := inB_rep fx rx f.2 r.2
    have e := flat_eq f.1 fx r.1 rx
    show (match Mi.eqV y x with | true => true | false => inB x xs) = ((u :: us).any fun y => L2.eqV y v)
    rw [List.any_cons, ← e]
    cases Mi.eqV y x with
    | true => rfl
    | false => exact ih
theorem key_rep {a : Vl} {v : V} (f : keyOk a = true) (r : RepV Γ L m H a v) : ∃ k, RepKey a k ∧ v = kV k := by
  cases a with
  | int i => exact ⟨.inl i, rfl, r⟩
  | str s => exact ⟨.inr _, rfl, r⟩
  | _ => simp [keyOk] at f
theorem key_eq {a b : Vl} {k j : Key} (ra : RepKey a k) (rb : RepKey b j) : keyEq a b = decide (k = j) := by
  cases a with
  | int i =>
    cases (show _ = _ from ra)
    cases b with
    | int i' =>
      cases (show _ = _ from rb)
      rw [key_ll] <;> rfl
    | str s =>
      cases (show _ = _ from rb)
      rw [key_lr] <;> rfl
    | _ => exact rb.elim
  | str s =>
    cases (show _ = _ from ra)
    cases b with
    | int i' =>
      cases (show _ = _ from rb)
      rw [key_rl] <;> rfl
    | str t =>
      cases (show _ = _ from rb)
      rw [key_rr]
      show (s == t) = _
      rw [← str_beq s t, Bool.eq_iff_iff, beq_iff_eq, decide_eq_true_iff]
    | _ => exact rb.elim
  | _ => exact ra.elim
theorem dget_rep {k : Vl} {j : Key} (rk : RepKey k j) : ∀ {kvs : List (Vl × Vl)} {us : List (Key × V)}, RepKs Γ L m H kvs us →
    match dget k kvs with
    | some x => ∃ u, valV us j = some u ∧ RepV Γ L m H x u
    | none => valV us j = none
  | [], [], _ => rfl
  | [], _ :: _, r => r.elim
  | _ :: _, [], r => r.elim
  | (a, x) :: r, (b, u) :: s, h => by
    obtain ⟨h1, h2, h3⟩ := h
    have e := key_eq h1 rk
    have ih := dget_rep rk h3
    unfold dget
    cases hb : keyEq a k with
    | true =>
      rw [hb] at e
      have e' : b = j := of_decide_eq_true e.symm
      exact ⟨u, valV_pos e', h2⟩
    | false =>
      rw [hb] at e
      have e' : ¬ b = j := of_decide_eq_false e.symm
      dsimp only
      rw [valV_neg (p := (b, u)) e']
      exact ih
theorem dget_some {k x : Vl} {j : Key} {kvs : List (Vl × Vl)} {us : List (Key × V)} (rk : RepKey k j) (r : RepKs Γ L m H kvs us) (e : dget k kvs = some x) : ∃ u, valV us j = some u ∧ RepV Γ L m H x u := by
  have := dget_rep rk r
  rw [e] at this
  exact this
theorem dget_isSome {k : Vl} {j : Key} {kvs : List (Vl × Vl)} {us : List (Key × V)} (rk : RepKey k j) (r : RepKs Γ L m H kvs us) : (dget k kvs).isSome = (valV us j).isSome := by
  have := dget_rep rk r
  cases e : dget k kvs with
  | none =>
    rw [e] at this
    rw [show valV us j = none from this]
    rfl
  | some x =>
    rw [e] at this
    obtain ⟨u, h, _⟩ := this
    rw [h] <;> rfl
theorem RepKs.append {kvs ks : List (Vl × Vl)} {us ws : List (Key × V)} (a : RepKs Γ L m H kvs us) (b : RepKs Γ L m H ks ws) : RepKs Γ L m H (kvs ++ ks) (us ++ ws) := by
  induction kvs generalizing us with
  | nil => cases us with
    | nil => exact b
    | cons _ _ => exact a.elim
  | cons x xs ih => cases us with
    | nil => exact a.elim
    | cons v vs => exact ⟨a.1, a.2.1, ih a.2.2⟩
theorem drep_rep {k v : Vl} {j : Key} {w : V} (rk : RepKey k j) (rv : RepV Γ L m H v w) : ∀ {kvs : List (Vl × Vl)} {us : List (Key × V)}, RepKs Γ L m H kvs us → RepKs Γ L m H (drep k v kvs) (us.map fun kv => if kv.1 = j then (kv.1, w) else kv)
  | [], [], _ => trivial
  | [], _ :: _, r => r.elim
  | _ :: _, [], r => r.elim
  | (a, x) :: r, (b, u) :: s, h => by
    obtain ⟨h1, h2, h3⟩ := h
    have e := key_eq h1 rk
    have ih := drep_rep rk rv h3
    unfold drep
    rw [List.map_cons]
    cases hb : keyEq a k with
    | true =>
      rw [hb] at e
      have e' : b = j := of_decide_eq_true e.symm
      rw [if_pos e']
      exact ⟨h1, rv, ih⟩
    | false =>
      rw [hb] at e
      have e' : ¬ b = j := of_decide_eq_false e.symm
      rw [if_neg e']
      exact ⟨h1, h2, ih⟩
theorem dput_rep {k v : Vl} {j : Key} {w : V} (rk : RepKey k j) (rv : RepV Γ L m H v w) {kvs : List (Vl × Vl)} {us : List (Key × V)} (r : RepKs Γ L m H kvs us) : RepKs Γ L m H (dput k v kvs) (putK us j w) := by
  have hs := dget_isSome rk r
  unfold dput putK
  rw [valV_any, ← hs]
  split
  · rename_i e
    rw [e, if_pos (show (some _ : Option Vl).isSome = true from rfl)]
    exact drep_rep rk rv r
  · rename_i e
    rw [e, if_neg (show ¬ (none : Option Vl).isSome = true from Bool.false_ne_true)]
    exact r.append ⟨rk, rv, trivial⟩
theorem RepKs.length : ∀ {kvs : List (Vl × Vl)} {us : List (Key × V)}, RepKs Γ L m H kvs us → kvs.length = us.length
  | [], [], _ => rfl
  | [], _ :: _, r => r.elim
  | _ :: _, [], r => r.elim
  | _ :: _, _ :: _, h => congrArg (· + 1) (RepKs.length h.2.2)
end
end Mi
set_option Elab.async false
set_option linter.all false
set_option maxRecDepth 100000
set_option maxHeartbeats 4000000
namespace Mi
open PySem PySem.Spec PyProof.Rows L2
section
variable {Γ : Gm} {L m : List Addr} {H : Hp}
theorem isIn_run {X : Cx} (C : X.K = Γ.K) (hu : X.A.units + 1 < cLine) {neg : Bool} {pins : List (Addr × Obj)} {s : Shared} {σ : L2.St} {x y : V} {v u : Value} {Q : VK} {h : Hh} {a b : Vl} {c : Bool} (I : Inv X pins σ H s) (rx : RelV x v) (ry : RelV y u)
    (rh : RepH Γ L m h H) (ra : RepV Γ L m H a x) (rb : RepV Γ L m H b y) (e : isIn h a b = some c) (k : Q (.bl (if neg then !c else c)) H) : wpAny (model X.prog X.w) X.A (compareOp (if neg then .NotIn else .In) v u) (EP X pins σ Q) X.xe s := by
  have sq : ∀ (p : Addr) (us : List V) (xs : List Vl), y = .ref p → (SqL X.K H p us ∨ SqT X.K H p us) → RepL Γ L m H xs us → (flat a && xs.all flat) = true → c = inB a xs →
      wpAny (model X.prog X.w) X.A (compareOp (if neg then .NotIn else .In) v u) (EP X pins σ Q) X.xe s := fun p us xs e1 e2 rr f ec => by
    rw [Bool.and_eq_true] at f
    have ei := inB_rep f.1 ra f.2 rr
    subst ec
    rw [ei] at k
    cases neg with
    | false => exact op_in_seq pins s σ H x y v u Q I rx ry ⟨p, us, e1, e2, flat_rep f.1 ra, flat_all f.2 rr, k⟩
    | true => exact op_notIn_seq pins s σ H x y v u Q I rx ry ⟨p, us, e1, e2, flat_rep f.1 ra, flat_all f.2 rr, k⟩
  unfold isIn at e
  split at e
  · rename_i n
    obtain ⟨p, e1, q⟩ := rb
    split at e
    · rename_i kvs hk
      split at e
      · rename_i hko
        cases Option.some.inj e
        obtain ⟨us, e2, rr⟩ := rh.at_ q hk
        obtain ⟨j, rk, ex⟩ := key_rep hko ra
        have es := dget_isSome rk rr
        rw [es] at k
        subst e1
        cases ry
        cases neg with
        | false => exact d_in hu I (by rw [ex]; exact DGet.k e2) rx fun s' I' => ⟨.bl _, H, I', rfl, k⟩
        | true => exact d_notIn hu I (by rw [ex]; exact DGet.k e2) rx fun s' I' => ⟨.bl _, H, I', rfl, k⟩
      · cases e
    · rename_i xs hx
      split at e
      · rename_i f
        obtain ⟨us, e2, rr⟩ := rh.at_ q hx
        exact sq p us xs e1 (.inl (SqL.of e2)) rr f (Option.some.inj e).symm
      · cases e
    · cases e
  · rename_i xs
    obtain ⟨p, us, e1, e2, rr⟩ := rb
    split at e
    · rename_i f
      exact sq p us xs e1 (.inr (by rw [C]; exact e2)) rr f (Option.some.inj e).symm
    · cases e
  · rename_i xs
    obtain ⟨p, us, e1, e2, _, _, rr⟩ := rb
    split at e
    · rename_i f
      exact sq p us xs e1 (.inl (SqL.of e2)) rr f (Option.some.inj e).symm
    · cases e
  · cases e
theorem isNon_rep {a : Vl} {x : V} (r : RepV Γ L m H a x) : isNon a = decide (x = .non) := by
  cases a with
  | non => cases (show _ = _ from r); rfl
  | bl _ => cases (show _ = _ from r); rfl
  | int _ => cases (show _ = _ from r); rfl
  | str _ => cases (show _ = _ from r); rfl
  | tup _ => obtain ⟨_, _, rfl, _⟩ := r; rfl
  | lst _ => obtain ⟨_, _, rfl, _⟩ := r; rfl
  | scr _ => obtain ⟨_, _, rfl, _⟩ := r; rfl
  | dct _ => exact r.elim
  | ins _ _ => obtain ⟨_, _, _, _, rfl, _⟩ := r; rfl
  | ref _ => obtain ⟨_, rfl, _⟩ := r; rfl
  | fn _ => cases (show _ = _ from r); rfl
  | clo _ => exact r.elim
end
theorem op_cmpV {X : Cx} {Γ : Gm} (C : X.K = Γ.K) (hu : X.A.units + 64 < cLine) (o : CO) : OpR X (compareOp (co o)) (rC Γ (cmpV o)) := by
  cases o with
  | eq => exact op_pyEq C hu
  | ne => exact op_pyNe C hu
  | lt =>
    intro pins s σ H x y v u Q I rx ry hq
    obtain ⟨L, m, h, a, b, c, rh, ra, rb, e, k⟩ := hq
    unfold cmpV at e
    simp only at e
    split at e
    · cases Option.some.inj e
      exact op_lt pins s σ H x y v u Q I rx ry ⟨_, _, ra, rb, k⟩
    · cases e
  | le =>
    intro pins s σ H x y v u Q I rx ry hq
    obtain ⟨L, m, h, a, b, c, rh, ra, rb, e, k⟩ := hq
    unfold cmpV at e
    simp only at e
    split at e
    · cases Option.some.inj e
      exact op_le pins s σ H x y v u Q I rx ry ⟨_, _, ra, rb, k⟩
    · cases e
  | gt =>
    intro pins s σ H x y v u Q I rx ry hq
    obtain ⟨L, m, h, a, b, c, rh, ra, rb, e, k⟩ := hq
    unfold cmpV at e
    simp only at e
    split at e
    · cases Option.some.inj e
      exact op_gt pins s σ H x y v u Q I rx ry ⟨_, _, ra, rb, k⟩
    · cases e
  | ge =>
    intro pins s σ H x y v u Q I rx ry hq
    obtain ⟨L, m, h, a, b, c, rh, ra, rb, e, k⟩ := hq
    unfold cmpV at e
    simp only at e
    split at e
    · cases Option.some.inj e
      exact op_ge pins s σ H x y v u Q I rx ry ⟨_, _, ra, rb, k⟩
    · cases e
  | is =>
    intro pins s σ H x y v u Q I rx ry hq
    obtain ⟨L, m, h, a, b, c, rh, ra, rb, e, k⟩ := hq
    unfold cmpV at e
    simp only at e
    split at e
    · cases Option.some.inj e
      rw [isNon_rep ra] at k
      exact op_isN pins s σ H x y v u Q I rx ry ⟨rb, k⟩
    · cases e
  | isnot =>
    intro pins s σ H x y v u Q I rx ry hq
    obtain ⟨L, m, h, a, b, c, rh, ra, rb, e, k⟩ := hq
    unfold cmpV at e
    simp only at e
    split at e
    · cases Option.some.inj e
      rw [isNon_rep ra] at k
      exact op_notN pins s σ H x y v u Q I rx ry ⟨rb, k⟩
    · cases e
  | isin =>
    intro pins s σ H x y v u Q I rx ry hq
    obtain ⟨L, m, h, a, b, c, rh, ra, rb, e, k⟩ := hq
    exact isIn_run (neg := false) C (by omega) I rx ry rh ra rb e k
  | notin =>
    intro pins s σ H x y v u Q I rx ry hq
    obtain ⟨L, m, h, a, b, c, rh, ra, rb, e, k⟩ := hq
    have e' : (match isIn h a b with | some b => some (!b) | none => none) = some c := e
    split at e'
    · rename_i d hd
      cases Option.some.inj e'
      exact isIn_run (neg := true) C (by omega) I rx ry rh ra rb hd k
    · cases e'
theorem ixN_eq {n : Nat} {i : Int} {j : Nat} (e : Mi.ixN n i = some j) : L2.ixN n i = some j := by
  unfold Mi.ixN at e
  unfold L2.ixN
  cases i with
  | ofNat k =>
    dsimp only at e
    split at e
    · rename_i hk
      rw [if_pos (show (0 : Int) ≤ Int.ofNat k from Int.natCast_nonneg _), if_pos (show (Int.ofNat k : Int) < n from Int.ofNat_lt.mpr hk)]
      exact e
    · cases e
  | negSucc k =>
    dsimp only at e
    split at e
    · rename_i hk
      cases Option.some.inj e
      have h1 : ¬ (0 : Int) ≤ Int.negSucc k := by omega
      have h2 : -(n : Int) ≤ Int.negSucc k := by omega
      rw [if_neg h1, if_pos h2]
      congr 1
      omega
    · cases e
theorem atI_of {n : Nat} {i : Int} {j : Nat} {us : List V} {u : V} (hl : us.length = n) (e : Mi.ixN n i = some j) (h : us[j]? = some u) : atI us i = some u := by
  unfold atI
  rw [hl, ixN_eq e]
  exact h
theorem ix_sub {X : Cx} {Γ : Gm} (C : X.K = Γ.K) (hu : X.A.units + 1 < cLine) : IxR X (rV Γ subV) := by
  intro value slice pins s σ H x y v u Q I rx ry hq hs
  obtain ⟨L, m, h, a, b, z, rh, ra, rb, e, k⟩ := hq
  have sq : ∀ (p : Addr) (us : List V) (xs : List Vl) (i : Int) (j : Nat), x = .ref p → y = .int i → (SqL X.K H p us ∨ SqT X.K H p us) → RepL Γ L m H xs us → Mi.ixN xs.length i = some j → xs[j]? = some z →
      wpAny (model X.prog X.w) X.A (subscriptTail value slice v u) (EP X pins σ Q) X.xe s := fun p us xs i j e1 e2 q rr ej ex => by
    obtain ⟨w, hw, rw'⟩ := rr.get ex
    have ha := atI_of (us := us) rr.length.symm ej hw
    rcases q with q | q
    · exact ix_list value slice pins s σ H x y v u Q I rx ry ⟨p, us, i, w, e1, e2, q, ha, k.now rh rw'⟩ hs
    · exact ix_tup value slice pins s σ H x y v u Q I rx ry ⟨p, us, i, w, e1, e2, q, ha, k.now rh rw'⟩ hs
  have dk : ∀ (p : Addr) (us : List (Key × V)) (kvs : List (Vl × Vl)), x = .ref p → H p = some (.dK us) → RepKs Γ L m H kvs us → keyOk b = true → dget b kvs = some z →
      wpAny (model X.prog X.w) X.A (subscriptTail value slice v u) (EP X pins σ Q) X.xe s := fun p us kvs e1 q rr hko hg => by
    obtain ⟨j, rk, ey⟩ := key_rep hko rb
    obtain ⟨w, hw, rw'⟩ := dget_some rk rr hg
    subst e1
    cases rx
    have g : DGet H p y (some w) := by
      rw [ey, ← hw]
      exact DGet.k q
    exact tail_any (dict_typeIs I g) PySem.F.slot_dict_getitem.lookup (d_getItem hu I g ry fun w' s3 I3 r3 => ⟨w, H, I3, r3, k.now rh rw'⟩) hs
  unfold subV at e
  split at e
  · rename_i i
    split at e
    · rename_i n
      obtain ⟨p, e1, q⟩ := ra
      split at e
      · rename_i xs hx
        split at e
        · rename_i j hj
          obtain ⟨us, e2, rr⟩ := rh.at_ q hx
          exact sq p us xs i j e1 rb (.inl (SqL.of e2)) rr hj e
        · cases e
      · rename_i kvs hk
        obtain ⟨us, e2, rr⟩ := rh.at_ q hk
        exact dk p us kvs e1 e2 rr rfl e
      · cases e
    · rename_i xs
      obtain ⟨p, us, e1, q, rr⟩ := ra
      split at e
      · rename_i j hj
        exact sq p us xs i j e1 rb (.inr (by rw [C]; exact q)) rr hj e
      · cases e
    · rename_i xs
      obtain ⟨p, us, e1, q, _, _, rr⟩ := ra
      split at e
      · rename_i j hj
        exact sq p us xs i j e1 rb (.inl (SqL.of q)) rr hj e
      · cases e
    · rename_i xs
      obtain ⟨p, us, e1, q, rr⟩ := ra
      split at e
      · rename_i j hj
        refine sq p us xs i j e1 rb (.inl ?_) rr hj e
        rcases q with ⟨o, q⟩ | q
        · exact .inl (.inr ⟨o, q⟩)
        · rw [C]
          exact .inr q
      · cases e
    · cases e
  · split at e
    · rename_i n
      obtain ⟨p, e1, q⟩ := ra
      split at e
      · rename_i kvs hk
        obtain ⟨us, e2, rr⟩ := rh.at_ q hk
        exact dk p us kvs e1 e2 rr rfl e
      · cases e
    · cases e
  · cases e
theorem sIx_eq (n d : Nat) (o : Option Int) : Mi.sIx n d o = HT.sIx n d o := by
  cases o with
  | none => rfl
  | some i => cases i with
    | ofNat k =>
      show min k n = HT.sIx n d (some (k : Int))
      rw [HT.sIx_nat]
    | negSucc k =>
      show n - (k + 1) = (if Int.negSucc k < 0 then (Int.negSucc k + (n : Int)).toNat else min (Int.negSucc k).toNat n)
      rw [if_pos (show Int.negSucc k < 0 by omega)]
      omega
section
variable {Γ : Gm} {L m : List Addr} {H : Hp}
theorem RepL.drop {xs : List Vl} {us : List V} (r : RepL Γ L m H xs us) : ∀ k : Nat, RepL Γ L m H (xs.drop k) (us.drop k) := fun k => by
  induction k generalizing xs us with
  | zero => exact r
  | succ k ih => cases xs with
    | nil => cases us with
      | nil => exact trivial
      | cons _ _ => exact r.elim
    | cons x xs => cases us with
      | nil => exact r.elim
      | cons u us => exact ih r.2
theorem RepL.take {xs : List Vl} {us : List V} (r : RepL Γ L m H xs us) : ∀ k : Nat, RepL Γ L m H (xs.take k) (us.take k) := fun k => by
  induction k generalizing xs us with
  | zero => exact trivial
  | succ k ih => cases xs with
    | nil => cases us with
      | nil => exact trivial
      | cons _ _ => exact r.elim
    | cons x xs => cases us with
      | nil => exact r.elim
      | cons u us => exact ⟨r.1, ih r.2⟩
theorem RepL.cut {xs : List Vl} {us : List V} (r : RepL Γ L m H xs us) (lo hi : Option Int) : RepL Γ L m H (cut xs lo hi) (cutV us lo hi) := by
  unfold Mi.cut cutV
  rw [sIx_eq, sIx_eq, r.length]
  exact (r.drop _).take _
end
theorem sl_cut {X : Cx} {Γ : Gm} (C : X.K = Γ.K) : SlR X (fun x lo hi H Q => ∃ L m h a z, RepH Γ L m h H ∧ RepV Γ L m H a x ∧ cutW h a lo hi = some z ∧ okV Γ L m H h z Q) := by
  intro pins s σ H x v vl vu lo hi sl Q I rx hs pl pu hq
  obtain ⟨L, m, h, a, z, rh, ra, e, k⟩ := hq
  have sq : ∀ (p : Addr) (us : List V) (xs : List Vl), x = .ref p → SqL X.K H p us → RepL Γ L m H xs us → z = .lst (cut xs lo hi) → ∃ T id, typeLookup (.type T) "__getitem__" = pure (some (.builtin id)) ∧ s.TypeIs v T ∧ wpAny (model X.prog X.w) X.A (getItem v (.ref sl)) (EP X pins σ Q) X.xe s := fun p us xs e1 q rr ez => by
    subst ez
    exact sl_list pins s σ H x v vl vu lo hi sl Q I rx hs pl pu ⟨p, us, e1, q, fun D hD => k.newL rh hD (rr.cut lo hi)⟩
  unfold cutW at e
  split at e
  · rename_i xs
    obtain ⟨p, us, e1, q, rr⟩ := ra
    cases Option.some.inj e
    refine sl_tupA pins s σ H x v vl vu lo hi sl Q I rx hs pl pu ⟨p, us, e1, by rw [C]; exact q, fun w => ?_, fun w D hD => ?_⟩
    · have ec : cut xs lo hi = xs := by
        unfold Mi.cut
        rw [sIx_eq, sIx_eq, rr.length, w.1, w.2, Nat.sub_zero, List.drop_zero, ← rr.length, List.take_length]
      rw [ec] at k
      exact k.now rh ⟨p, us, rfl, q, rr⟩
    · exact k.newT rh hD (rr.cut lo hi)
  · rename_i xs
    obtain ⟨p, us, e1, q, _, _, rr⟩ := ra
    exact sq p us xs e1 (SqL.of q) rr (Option.some.inj e).symm
  · rename_i xs
    obtain ⟨p, us, e1, q, rr⟩ := ra
    refine sq p us xs e1 ?_ rr (Option.some.inj e).symm
    rcases q with ⟨o, q⟩ | q
    · exact .inl (.inr ⟨o, q⟩)
    · rw [C]
      exact .inr q
  · obtain ⟨p, e1, q⟩ := ra
    split at e
    · rename_i xs hx
      obtain ⟨us, e2, rr⟩ := rh.at_ q hx
      exact sq p us xs e1 (SqL.of e2) rr (Option.some.inj e).symm
    · cases e
  · cases e
theorem sl_cutN {X : Cx} {Γ : Gm} : SlR X (fun x lo hi H Q => ∃ L m h a xs, RepH Γ L m h H ∧ RepV Γ L m H a x ∧ lstOf h a = some xs ∧ okN Γ L m H h (cut xs lo hi) Q) := by
  intro pins s σ H x v vl vu lo hi sl Q I rx hs pl pu hq
  obtain ⟨L, m, h, a, xs, rh, ra, e, k⟩ := hq
  obtain ⟨p, us, e1, q, rr⟩ := lstOf_rep rh ra e
  exact sl_list pins s σ H x v vl vu lo hi sl Q I rx hs pl pu ⟨p, us, e1, SqL.of q, fun D hD => k.new rh hD (rr.cut lo hi)⟩
def okH (Γ : Gm) (L m : List Addr) (H : Hp) (h1 : Hh) (Q : Hp → Prop) : Prop := ∀ H', Grow m H m H' → RepH Γ L m h1 H' → Q H'
theorem RepL.set {Γ : Gm} {L m : List Addr} {H : Hp} {x : Vl} {u : V} (r : RepV Γ L m H x u) {xs : List Vl} {us : List V} (rr : RepL Γ L m H xs us) (j : Nat) : RepL Γ L m H (xs.set j x) (us.set j u) := by
  induction j generalizing xs us with
  | zero => cases xs with
    | nil => cases us with
      | nil => exact trivial
      | cons _ _ => exact rr.elim
    | cons y xs => cases us with
      | nil => exact rr.elim
      | cons w us => exact ⟨r, rr.2⟩
  | succ j ih => cases xs with
    | nil => cases us with
      | nil => exact trivial
      | cons _ _ => exact rr.elim
    | cons y xs => cases us with
      | nil => exact rr.elim
      | cons w us => exact ⟨rr.1, ih rr.2⟩
theorem set_setV {X : Cx} {Γ : Gm} (hu : X.A.units + 1 < cLine) : PSet X (fun o i v H Q => ∃ L m h a b c h1, RepH Γ L m h H ∧ RepV Γ L m H a o ∧ RepV Γ L m H b i ∧ RepV Γ L m H c v ∧ setV h a b c = some h1 ∧ okH Γ L m H h1 Q) := by
  intro pins s σ H o i v ov iv u Q I ro ri rv hq
  obtain ⟨L, m, h, a, b, c, h1, rh, ra, rb, rc, e, k⟩ := hq
  unfold setV at e
  split at e
  · rename_i n
    obtain ⟨p, e1, q⟩ := ra
    split at e
    · rename_i xs hx
      split at e
      · rename_i j
        split at e
        · rename_i i' hi
          cases Option.some.inj e
          obtain ⟨us, e2, rr⟩ := rh.at_ q hx
          refine set_list pins s σ H o i v ov iv u Q I ro ri rv ⟨p, us, j, i', e1, rb, e2, by rw [← rr.length]; exact ixN_eq hi, ?_⟩
          refine k _ (Grow.write rh q) (rh.write q (List.getElem?_eq_some_iff.mp hx).1 ?_)
          exact ⟨_, upd_same, (rr.set rc i').grow' (Grow.write rh q)⟩
        · cases e
      · cases e
    · rename_i kvs hk
      split at e
      · rename_i hko
        split at e
        · rename_i hz
          cases Option.some.inj e
          obtain ⟨us, e2, rr⟩ := rh.at_ q hk
          obtain ⟨j, rk, ey⟩ := key_rep hko rb
          subst e1 ey
          cases ro
          refine d_setItem hu I (DPut.k (v := v) e2 (by rw [← rr.length, ← line_eq]; exact hz)) ri rv fun s' I' => ⟨_, I', ?_⟩
          refine k _ (Grow.write rh q) (rh.write q (List.getElem?_eq_some_iff.mp hk).1 ?_)
          exact ⟨_, upd_same, (dput_rep rk rc rr).map fun _ _ => RepV.grow (Grow.write rh q)⟩
        · cases e
      · cases e
    · cases e
  · cases e
theorem size_str (s : List Nat) : (⟨s.toArray⟩ : Str).length = s.length := by
  show s.toArray.size = _
  simp
theorem tru_truth {X : Cx} {Γ : Gm} (C : X.K = Γ.K) : TruR X (fun x H Q => ∃ L m h a c, RepH Γ L m h H ∧ RepV Γ L m H a x ∧ truth h a = some c ∧ Q c H) := by
  intro pins s σ H x v Q I rx hq
  obtain ⟨L, m, h, a, c, rh, ra, e, k⟩ := hq
  refine tru_ok pins s σ H x v Q I rx ⟨c, ?_, k⟩
  have em : ∀ {xs : List Vl} {us : List V}, RepL Γ L m H xs us → (!xs.isEmpty) = !us.isEmpty := fun {xs us} r => by
    have := r.length
    cases xs <;> cases us <;> first | rfl | simp at this
  unfold truth at e
  split at e
  · cases (show x = _ from ra); cases e; rfl
  · cases (show x = _ from ra); cases e; rfl
  · cases (show x = _ from ra); cases e; rfl
  · rename_i z
    cases (show x = _ from ra)
    split at e
    · rename_i hz
      cases Option.some.inj e
      refine ⟨by rw [size_str, ← line_eq]; exact hz, ?_⟩
      rw [size_str]
      cases z with
      | nil => rfl
      | cons _ r =>
        show true = (((r.length + 1 : Nat) : Int) != 0)
        rw [bne_iff_ne.mpr (by omega)]
    · cases e
  · obtain ⟨p, us, rfl, q, rr⟩ := ra
    cases Option.some.inj e
    exact .inr (.inl ⟨us, by rw [C]; exact q, em rr⟩)
  · obtain ⟨p, us, rfl, q, _, _, rr⟩ := ra
    cases Option.some.inj e
    exact .inl ⟨us, SqL.of q, em rr⟩
  · obtain ⟨p, us, rfl, q, rr⟩ := ra
    cases Option.some.inj e
    refine .inl ⟨us, ?_, em rr⟩
    rcases q with ⟨o, q⟩ | q
    · exact .inl (.inr ⟨o, q⟩)
    · rw [C]
      exact .inr q
  · obtain ⟨p, rfl, q⟩ := ra
    split at e
    · rename_i xs hx
      cases Option.some.inj e
      obtain ⟨us, e2, rr⟩ := rh.at_ q hx
      exact .inl ⟨us, SqL.of e2, em rr⟩
    · rename_i xs hx
      cases Option.some.inj e
      obtain ⟨us, e2, rr⟩ := rh.at_ q hx
      refine .inr (.inr ⟨us, e2, ?_⟩)
      have := rr.length
      cases xs <;> cases us <;> first | rfl | simp at this
    · cases e
  · cases e
end Mi
set_option Elab.async false
set_option linter.all false
set_option maxRecDepth 100000
set_option maxHeartbeats 4000000
namespace Mi
open PySem PySem.Spec PyProof.Rows L2
section
variable {Γ : Gm} {L m : List Addr} {H : Hp}
theorem ints_rep : ∀ {xs : List Vl} {ns : List Int} {us : List V}, intsOf xs = some ns → RepL Γ L m H xs us → us = ns.map V.int
  | [], ns, [], e, _ => by cases Option.some.inj e; rfl
  | [], _, _ :: _, _, r => r.elim
  | _ :: _, _, [], _, r => r.elim
  | .int i :: xs, ns, u :: us, e, r => by
    have e' : (match intsOf xs with | some l => some (i :: l) | none => none) = some ns := e
    split at e'
    · rename_i l hl
      cases Option.some.inj e'
      rw [ints_rep hl r.2, List.map_cons]
      cases (show u = .int i from r.1)
      rfl
    · cases e'
  | .non :: _, _, _, e, _ => by cases e
  | .bl _ :: _, _, _, e, _ => by cases e
  | .str _ :: _, _, _, e, _ => by cases e
  | .tup _ :: _, _, _, e, _ => by cases e
  | .lst _ :: _, _, _, e, _ => by cases e
  | .scr _ :: _, _, _, e, _ => by cases e
  | .dct _ :: _, _, _, e, _ => by cases e
  | .ins _ _ :: _, _, _, e, _ => by cases e
  | .ref _ :: _, _, _, e, _ => by cases e
  | .fn _ :: _, _, _, e, _ => by cases e
  | .clo _ :: _, _, _, e, _ => by cases e
theorem bls_rep : ∀ {xs : List Vl} {ns : List Bool} {us : List V}, blsOf xs = some ns → RepL Γ L m H xs us → us = ns.map V.bl
  | [], ns, [], e, _ => by cases Option.some.inj e; rfl
  | [], _, _ :: _, _, r => r.elim
  | _ :: _, _, [], _, r => r.elim
  | .bl i :: xs, ns, u :: us, e, r => by
    have e' : (match blsOf xs with | some l => some (i :: l) | none => none) = some ns := e
    split at e'
    · rename_i l hl
      cases Option.some.inj e'
      rw [bls_rep hl r.2, List.map_cons]
      cases (show u = .bl i from r.1)
      rfl
    · cases e'
  | .non :: _, _, _, e, _ => by cases e
  | .int _ :: _, _, _, e, _ => by cases e
  | .str _ :: _, _, _, e, _ => by cases e
  | .tup _ :: _, _, _, e, _ => by cases e
  | .lst _ :: _, _, _, e, _ => by cases e
  | .scr _ :: _, _, _, e, _ => by cases e
  | .dct _ :: _, _, _, e, _ => by cases e
  | .ins _ _ :: _, _, _, e, _ => by cases e
  | .ref _ :: _, _, _, e, _ => by cases e
  | .fn _ :: _, _, _, e, _ => by cases e
  | .clo _ :: _, _, _, e, _ => by cases e
theorem ints_map {l : List Int} : RepL Γ L m H (l.map Vl.int) (l.map V.int) := by
  induction l with
  | nil => exact trivial
  | cons x r ih => exact ⟨rfl, ih⟩
end
theorem sumI_eq : ∀ l : List Int, sumI l = l.sum
  | [] => rfl
  | x :: r => by
    rw [List.sum_cons, ← sumI_eq r]
    rfl
theorem maxI_spec : ∀ {l : List Int} {m : Int}, maxI l = some m → m ∈ l ∧ ∀ y ∈ l, y ≤ m
  | [], _, e => by cases e
  | [x], m, e => by
    cases Option.some.inj e
    exact ⟨List.mem_cons_self, fun y hy => by rw [List.mem_singleton.mp hy]; exact Int.le_refl _⟩
  | x :: z :: r, m, e => by
    have e' : (match maxI (z :: r) with | some m => some (if x ≤ m then m else x) | none => none) = some m := e
    split at e'
    · rename_i k hk
      obtain ⟨h1, h2⟩ := maxI_spec hk
      cases Option.some.inj e'
      split
      · rename_i hx
        exact ⟨List.mem_cons_of_mem _ h1, fun y hy => (List.mem_cons.mp hy).elim (fun q => by rw [q]; exact hx) (h2 y)⟩
      · rename_i hx
        exact ⟨List.mem_cons_self, fun y hy => (List.mem_cons.mp hy).elim (fun q => by rw [q]; exact Int.le_refl _) fun q => by have := h2 y q; omega⟩
    · cases e'
theorem minI_spec : ∀ {l : List Int} {m : Int}, minI l = some m → m ∈ l ∧ ∀ y ∈ l, m ≤ y
  | [], _, e => by cases e
  | [x], m, e => by
    cases Option.some.inj e
    exact ⟨List.mem_cons_self, fun y hy => by rw [List.mem_singleton.mp hy]; exact Int.le_refl _⟩
  | x :: z :: r, m, e => by
    have e' : (match minI (z :: r) with | some m => some (if m ≤ x then m else x) | none => none) = some m := e
    split at e'
    · rename_i k hk
      obtain ⟨h1, h2⟩ := minI_spec hk
      cases Option.some.inj e'
      split
      · rename_i hx
        exact ⟨List.mem_cons_of_mem _ h1, fun y hy => (List.mem_cons.mp hy).elim (fun q => by rw [q]; exact hx) (h2 y)⟩
      · rename_i hx
        exact ⟨List.mem_cons_self, fun y hy => (List.mem_cons.mp hy).elim (fun q => by rw [q]; exact Int.le_refl _) fun q => by have := h2 y q; omega⟩
    · cases e'
theorem insI_perm (x : Int) : ∀ l : List Int, (insI x l).Perm (x :: l)
  | [] => .refl _
  | y :: r => by
    unfold insI
    split
    · exact .refl _
    · exact ((insI_perm x r).cons y).trans (.swap x y r)
theorem insI_sorted (x : Int) : ∀ {l : List Int}, l.Pairwise (· ≤ ·) → (insI x l).Pairwise (· ≤ ·)
  | [], _ => by simp [insI]
  | y :: r, h => by
    unfold insI
    split
    · rename_i hx
      exact .cons (fun z hz => (List.mem_cons.mp hz).elim (fun q => by rw [q]; exact hx) fun q => Int.le_trans hx ((List.pairwise_cons.mp h).1 z q)) h
    · rename_i hx
      refine .cons (fun z hz => ?_) (insI_sorted x (List.pairwise_cons.mp h).2)
      rcases List.mem_cons.mp ((insI_perm x r).mem_iff.mp hz) with q | q
      · rw [q]; omega
      · exact (List.pairwise_cons.mp h).1 z q
theorem sortI_perm : ∀ l : List Int, (sortI l).Perm l
  | [] => .refl _
  | x :: r => (insI_perm x (sortI r)).trans ((sortI_perm r).cons x)
theorem sortI_sorted : ∀ l : List Int, (sortI l).Pairwise (· ≤ ·)
  | [] => .nil
  | x :: r => insI_sorted x (sortI_sorted r)
theorem sorted_one : ∀ {a b : List Int}, a.Perm b → a.Pairwise (· ≤ ·) → b.Pairwise (· ≤ ·) → a = b
  | [], b, p, _, _ => (List.Perm.nil_eq p)
  | x :: a, [], p, _, _ => by have := p.length_eq; simp at this
  | x :: a, y :: b, p, h, g => by
    have e : x = y := by
      have h1 : x ∈ y :: b := p.mem_iff.mp List.mem_cons_self
      have h2 : y ∈ x :: a := p.mem_iff.mpr List.mem_cons_self
      have h3 : x ≤ y := (List.mem_cons.mp h2).elim (fun q => by omega) fun q => (List.pairwise_cons.mp h).1 y q
      have h4 : y ≤ x := (List.mem_cons.mp h1).elim (fun q => by omega) fun q => (List.pairwise_cons.mp g).1 x q
      omega
    subst e
    rw [sorted_one ((List.perm_cons x).mp p) (List.pairwise_cons.mp h).2 (List.pairwise_cons.mp g).2]
theorem sortI_one {l ns : List Int} (p : ns.Perm l) (h : ns.Pairwise (· ≤ ·)) : ns = sortI l := sorted_one (p.trans (sortI_perm l).symm) h (sortI_sorted l)
theorem sortI_rev {l ns : List Int} (p : ns.Perm l) (h : ns.Pairwise (· ≥ ·)) : ns = (sortI l).reverse := by
  have e := sortI_one (ns := ns.reverse) ((List.reverse_perm ns).trans p) (List.pairwise_reverse.mpr h)
  rw [← e, List.reverse_reverse]
def rF (Γ : Gm) (b : Bif) : List V → Hp → VK → Prop := fun xs H Q => ∃ L m h as v, RepH Γ L m h H ∧ RepL Γ L m H as xs ∧ bifV b h as = some v ∧ okV Γ L m H h v Q
theorem rep1 {Γ : Gm} {L m : List Addr} {H : Hp} {a : Vl} {xs : List V} (r : RepL Γ L m H [a] xs) : ∃ x, xs = [x] ∧ RepV Γ L m H a x := by
  cases xs with
  | nil => exact r.elim
  | cons x xs => cases xs with
    | nil => exact ⟨x, rfl, r.1⟩
    | cons _ _ => exact r.2.elim
theorem rep2 {Γ : Gm} {L m : List Addr} {H : Hp} {a b : Vl} {xs : List V} (r : RepL Γ L m H [a, b] xs) : ∃ x y, xs = [x, y] ∧ RepV Γ L m H a x ∧ RepV Γ L m H b y := by
  cases xs with
  | nil => exact r.elim
  | cons x xs =>
    obtain ⟨y, e, q⟩ := rep1 r.2
    exact ⟨x, y, by rw [e], r.1, q⟩
theorem rep0 {Γ : Gm} {L m : List Addr} {H : Hp} {xs : List V} (r : RepL Γ L m H [] xs) : xs = [] := by
  cases xs with
  | nil => rfl
  | cons _ _ => exact r.elim
theorem arg1_some {f : Vl → Option Vl} {xs : List Vl} {v : Vl} (e : arg1 f xs = some v) : ∃ a, xs = [a] ∧ f a = some v := by
  unfold arg1 at e
  split at e
  · exact ⟨_, rfl, e⟩
  · cases e
theorem arg2_some {f : Vl → Vl → Option Vl} {xs : List Vl} {v : Vl} (e : arg2 f xs = some v) : ∃ a b, xs = [a, b] ∧ f a b = some v := by
  unfold arg2 at e
  split at e
  · exact ⟨_, _, rfl, e⟩
  · cases e
theorem sqK {X : Cx} {Γ : Gm} (C : X.K = Γ.K) {H : Hp} {p : Addr} {us : List V} (q : SqL Γ.K H p us ∨ SqT Γ.K H p us) : SqL X.K H p us ∨ SqT X.K H p us := by
  rw [C]
  exact q
theorem cb_len {X : Cx} {Γ : Gm} (C : X.K = Γ.K) : CallR X (.builtin "len") (rF Γ .len) := by
  intro pins s σ H xs us Q I r hq
  obtain ⟨L, m, h, as, v, rh, ra, e, k⟩ := hq
  obtain ⟨a, rfl, e1⟩ := arg1_some (show arg1 (lenV h) as = some v from e)
  clear e
  have e := e1
  clear e1
  obtain ⟨x, rfl, rx⟩ := rep1 ra
  have sq : ∀ (xs : List Vl), seqOf h a = some xs → v = .int xs.length → wpAny (model X.prog X.w) X.A (call (.builtin "len") us) (EP X pins σ Q) X.xe s := fun xs ex ev => by
    obtain ⟨p, ws, e2, q, rr⟩ := seqOf_rep rh rx ex
    subst ev
    subst e2
    refine call_len_seq pins s σ H _ us Q I r ⟨p, ws, rfl, sqK C q, ?_⟩
    rw [← rr.length]
    exact k.now rh rfl
  unfold lenV at e
  split at e
  · rename_i z
    cases (show x = _ from rx)
    split at e
    · rename_i hz
      cases Option.some.inj e
      refine call_len_str pins s σ H _ us Q I r ⟨_, rfl, by rw [size_str, ← line_eq]; exact hz, ?_⟩
      rw [size_str]
      exact k.now rh rfl
    · cases e
  · rename_i n
    split at e
    · rename_i ys hy
      refine sq ys ?_ (Option.some.inj e).symm
      unfold seqOf
      dsimp only
      rw [hy]
    · rename_i ys hy
      cases Option.some.inj e
      obtain ⟨p, e1, q⟩ := rx
      obtain ⟨ws, e2, rr⟩ := rh.at_ q hy
      subst e1
      cases r with
      | cons r1 r2 =>
        cases r2
        cases r1
        refine d_len I (.inl e2) fun t s' I' => ⟨.int ws.length, H, I', ⟨t, rfl⟩, ?_⟩
        rw [← rr.length]
        exact k.now rh rfl
    · cases e
  · split at e
    · rename_i l hl
      exact sq l hl (Option.some.inj e).symm
    · cases e
theorem cb_abs {X : Cx} {Γ : Gm} : CallR X (.builtin "abs") (rF Γ .abs) := by
  intro pins s σ H xs us Q I r hq
  obtain ⟨L, m, h, as, v, rh, ra, e, k⟩ := hq
  obtain ⟨a, rfl, e1⟩ := arg1_some (show arg1 absV as = some v from e)
  replace e := e1
  obtain ⟨x, rfl, rx⟩ := rep1 ra
  unfold absV at e
  split at e
  · cases Option.some.inj e
    cases (show x = _ from rx)
    exact call_abs pins s σ H _ us Q I r ⟨_, rfl, k.now rh rfl⟩
  · cases e
theorem cb_max2 {X : Cx} {Γ : Gm} (hc : X.calm = true) : CallR X (.builtin "max") (rF Γ .max2) := by
  intro pins s σ H xs us Q I r hq
  obtain ⟨L, m, h, as, v, rh, ra, e, k⟩ := hq
  obtain ⟨a, b, rfl, e1⟩ := arg2_some (show arg2 max2V as = some v from e)
  replace e := e1
  obtain ⟨x, y, rfl, rx, ry⟩ := rep2 ra
  unfold max2V at e
  split at e
  · cases Option.some.inj e
    cases (show x = _ from rx)
    cases (show y = _ from ry)
    exact call_max2 hc pins s σ H _ us Q I r ⟨_, _, rfl, k.now rh rfl⟩
  · cases e
theorem cb_min2 {X : Cx} {Γ : Gm} (hc : X.calm = true) : CallR X (.builtin "min") (rF Γ .min2) := by
  intro pins s σ H xs us Q I r hq
  obtain ⟨L, m, h, as, v, rh, ra, e, k⟩ := hq
  obtain ⟨a, b, rfl, e1⟩ := arg2_some (show arg2 min2V as = some v from e)
  replace e := e1
  obtain ⟨x, y, rfl, rx, ry⟩ := rep2 ra
  unfold min2V at e
  split at e
  · cases Option.some.inj e
    cases (show x = _ from rx)
    cases (show y = _ from ry)
    exact call_min2 hc pins s σ H _ us Q I r ⟨_, _, rfl, k.now rh rfl⟩
  · cases e
theorem ofInts_some {h : Hh} {f : List Int → Option Int} {x v : Vl} (e : ofInts h f x = some v) : ∃ l ns i, lstOf h x = some l ∧ intsOf l = some ns ∧ f ns = some i ∧ v = .int i := by
  unfold ofInts at e
  split at e
  · rename_i l hl
    split at e
    · rename_i ns hn
      split at e
      · rename_i i hi
        exact ⟨l, ns, i, hl, hn, hi, (Option.some.inj e).symm⟩
      · cases e
    · cases e
  · cases e
theorem ofBls_some {h : Hh} {f : List Bool → Bool} {x v : Vl} (e : ofBls h f x = some v) : ∃ l ns, lstOf h x = some l ∧ blsOf l = some ns ∧ v = .bl (f ns) := by
  unfold ofBls at e
  split at e
  · rename_i l hl
    split at e
    · rename_i ns hn
      exact ⟨l, ns, hl, hn, (Option.some.inj e).symm⟩
    · cases e
  · cases e
theorem cb_maxl {X : Cx} {Γ : Gm} (hc : X.calm = true) : CallR X (.builtin "max") (rF Γ .maxl) := by
  intro pins s σ H xs us Q I r hq
  obtain ⟨L, m, h, as, v, rh, ra, e, k⟩ := hq
  obtain ⟨a, rfl, e1⟩ := arg1_some (show arg1 (ofInts h maxI) as = some v from e)
  replace e := e1
  obtain ⟨x, rfl, rx⟩ := rep1 ra
  obtain ⟨l, ns, i, h1, h2, h3, rfl⟩ := ofInts_some e
  obtain ⟨p, ws, rfl, q, rr⟩ := lstOf_rep rh rx h1
  cases ints_rep h2 rr
  obtain ⟨g1, g2⟩ := maxI_spec h3
  refine cr_max hc pins s σ H _ us Q I r ⟨p, ns, rfl, SqL.of q, List.length_pos_of_mem g1, fun j hj hle => ?_⟩
  have : j = i := by
    have := g2 j hj
    have := hle i g1
    omega
  subst this
  exact k.now rh rfl
theorem cb_minl {X : Cx} {Γ : Gm} (hc : X.calm = true) : CallR X (.builtin "min") (rF Γ .minl) := by
  intro pins s σ H xs us Q I r hq
  obtain ⟨L, m, h, as, v, rh, ra, e, k⟩ := hq
  obtain ⟨a, rfl, e1⟩ := arg1_some (show arg1 (ofInts h minI) as = some v from e)
  replace e := e1
  obtain ⟨x, rfl, rx⟩ := rep1 ra
  obtain ⟨l, ns, i, h1, h2, h3, rfl⟩ := ofInts_some e
  obtain ⟨p, ws, rfl, q, rr⟩ := lstOf_rep rh rx h1
  cases ints_rep h2 rr
  obtain ⟨g1, g2⟩ := minI_spec h3
  refine cr_min hc pins s σ H _ us Q I r ⟨p, ns, rfl, SqL.of q, List.length_pos_of_mem g1, fun j hj hle => ?_⟩
  have : j = i := by
    have := g2 j hj
    have := hle i g1
    omega
  subst this
  exact k.now rh rfl
theorem cb_sum {X : Cx} {Γ : Gm} (hc : X.calm = true) : CallR X (.builtin "sum") (rF Γ .sum) := by
  intro pins s σ H xs us Q I r hq
  obtain ⟨L, m, h, as, v, rh, ra, e, k⟩ := hq
  obtain ⟨a, rfl, e1⟩ := arg1_some (show arg1 (ofInts h fun l => some (sumI l)) as = some v from e)
  replace e := e1
  obtain ⟨x, rfl, rx⟩ := rep1 ra
  obtain ⟨l, ns, i, h1, h2, h3, rfl⟩ := ofInts_some e
  obtain ⟨p, ws, rfl, q, rr⟩ := lstOf_rep rh rx h1
  cases ints_rep h2 rr
  cases Option.some.inj h3
  refine cr_sum hc pins s σ H _ us Q I r ⟨p, ns, rfl, SqL.of q, ?_⟩
  rw [← sumI_eq]
  exact k.now rh rfl
theorem cb_all {X : Cx} {Γ : Gm} (hc : X.calm = true) : CallR X (.builtin "all") (rF Γ .all) := by
  intro pins s σ H xs us Q I r hq
  obtain ⟨L, m, h, as, v, rh, ra, e, k⟩ := hq
  obtain ⟨a, rfl, e1⟩ := arg1_some (show arg1 (ofBls h fun l => l.all id) as = some v from e)
  replace e := e1
  obtain ⟨x, rfl, rx⟩ := rep1 ra
  obtain ⟨l, ns, h1, h2, rfl⟩ := ofBls_some e
  obtain ⟨p, ws, rfl, q, rr⟩ := lstOf_rep rh rx h1
  cases bls_rep h2 rr
  exact cr_all hc pins s σ H _ us Q I r ⟨p, ns, rfl, SqL.of q, k.now rh rfl⟩
theorem cb_any {X : Cx} {Γ : Gm} (hc : X.calm = true) : CallR X (.builtin "any") (rF Γ .any) := by
  intro pins s σ H xs us Q I r hq
  obtain ⟨L, m, h, as, v, rh, ra, e, k⟩ := hq
  obtain ⟨a, rfl, e1⟩ := arg1_some (show arg1 (ofBls h fun l => l.any id) as = some v from e)
  replace e := e1
  obtain ⟨x, rfl, rx⟩ := rep1 ra
  obtain ⟨l, ns, h1, h2, rfl⟩ := ofBls_some e
  obtain ⟨p, ws, rfl, q, rr⟩ := lstOf_rep rh rx h1
  cases bls_rep h2 rr
  exact cr_any hc pins s σ H _ us Q I r ⟨p, ns, rfl, SqL.of q, k.now rh rfl⟩
theorem cb_int {X : Cx} {Γ : Gm} : CallR X (.type "int") (rF Γ .int) := by
  intro pins s σ H xs us Q I r hq
  obtain ⟨L, m, h, as, v, rh, ra, e, k⟩ := hq
  obtain ⟨a, rfl, e1⟩ := arg1_some (show arg1 intV as = some v from e)
  replace e := e1
  obtain ⟨x, rfl, rx⟩ := rep1 ra
  unfold intV at e
  split at e
  · cases Option.some.inj e
    cases (show x = _ from rx)
    exact call_int1 pins s σ H _ us Q I r (.inl ⟨_, rfl, k.now rh rfl⟩)
  · cases Option.some.inj e
    cases (show x = _ from rx)
    exact call_int1 pins s σ H _ us Q I r (.inr ⟨_, rfl, k.now rh rfl⟩)
  · cases e
theorem cb_tuple {X : Cx} {Γ : Gm} (C : X.K = Γ.K) : CallR X (.type "tuple") (rF Γ .tuple) := by
  intro pins s σ H xs us Q I r hq
  obtain ⟨L, m, h, as, v, rh, ra, e, k⟩ := hq
  obtain ⟨a, rfl, e1⟩ := arg1_some (show arg1 (tupleV h) as = some v from e)
  replace e := e1
  obtain ⟨x, rfl, rx⟩ := rep1 ra
  unfold tupleV at e
  split at e
  · rename_i l hl
    cases Option.some.inj e
    obtain ⟨p, ws, rfl, q, rr⟩ := seqOf_rep rh rx hl
    refine call_tuple_of pins s σ H _ us Q I r ⟨p, ws, rfl, ?_⟩
    rcases q with q | q
    · exact .inl ⟨by rw [C]; exact q, fun D hD => k.newT rh hD rr⟩
    · exact .inr ⟨by rw [C]; exact q, k.now rh ⟨p, ws, rfl, q, rr⟩⟩
  · cases e
theorem cb_list {X : Cx} {Γ : Gm} (C : X.K = Γ.K) : CallR X (.type "list") (fun xs H Q => ∃ L m h a x ys, xs = [x] ∧ RepH Γ L m h H ∧ RepV Γ L m H a x ∧ seqOf h a = some ys ∧ okN Γ L m H h ys Q) := by
  intro pins s σ H xs us Q I r hq
  obtain ⟨L, m, h, a, x, ys, rfl, rh, rx, e, k⟩ := hq
  obtain ⟨p, ws, rfl, q, rr⟩ := seqOf_rep rh rx e
  exact call_list_of pins s σ H _ us Q I r ⟨p, ws, rfl, sqK C q, fun D hD => k.new rh hD rr⟩
theorem cb_sorted {X : Cx} {Γ : Gm} : CallR X (.builtin "sorted") (fun xs H Q => ∃ L m h a x l ns, xs = [x] ∧ RepH Γ L m h H ∧ RepV Γ L m H a x ∧ lstOf h a = some l ∧ intsOf l = some ns ∧ okN Γ L m H h ((sortI ns).map .int) Q) := by
  intro pins s σ H xs us Q I r hq
  obtain ⟨L, m, h, a, x, l, ns, rfl, rh, rx, e, e2, k⟩ := hq
  obtain ⟨p, ws, rfl, q, rr⟩ := lstOf_rep rh rx e
  cases ints_rep e2 rr
  refine cr_sortedI pins s σ H _ us Q I r ⟨p, ns, rfl, SqL.of q, fun zs D pm so hD => ?_⟩
  have := sortI_one pm so
  subst this
  exact k.new rh hD ints_map
theorem cb_sortedR {X : Cx} {Γ : Gm} : CallRK X (.builtin "sorted") [Str.ofString "reverse"] (fun xs zs H Q => ∃ L m h a x l ns, xs = [x] ∧ zs = [.bl true] ∧ RepH Γ L m h H ∧ RepV Γ L m H a x ∧ lstOf h a = some l ∧ intsOf l = some ns ∧ okN Γ L m H h ((sortI ns).reverse.map .int) Q) := by
  intro pins s σ H xs zs us ws Q I r rz hq
  obtain ⟨L, m, h, a, x, l, ns, rfl, rfl, rh, rx, e, e2, k⟩ := hq
  obtain ⟨p, vs, rfl, q, rr⟩ := lstOf_rep rh rx e
  cases ints_rep e2 rr
  refine cr_sortedRev (b := true) pins s σ H _ _ us ws Q I r rz ⟨p, ns, rfl, rfl, SqL.of q, fun zs D pm so hD => ?_⟩
  have := sortI_rev pm (show zs.Pairwise (· ≥ ·) from so)
  subst this
  exact k.new rh hD ints_map
def rM (Γ : Gm) (t : Mth) : V → List V → Hp → VK → Prop := fun x xs H Q => ∃ L m h a as v h1, RepH Γ L m h H ∧ RepV Γ L m H a x ∧ RepL Γ L m H as xs ∧ mthV t h a as = .ok v h1 ∧ okV Γ L m H h1 v Q
theorem R.ok_inj {α : Type} {a b : α} {h k : Hh} (e : R.ok a h = R.ok b k) : a = b ∧ h = k := by
  injection e with e1 e2
  exact ⟨e1, e2⟩
theorem okV.wrote {Γ : Gm} {L m : List Addr} {H : Hp} {h : Hh} {n : Nat} {p : Addr} {xs xs' : List Vl} {us' : List V} {v : Vl} {u : V} {Q : VK} (rh : RepH Γ L m h H) (q : m[n]? = some p) (hx : h[n]? = some (.lst xs)) (k : okV Γ L m H (h.set n (.lst xs')) v Q) (rr : RepL Γ L m H xs' us') (rv : RepV Γ L m H v u) : Q u (upd H p (.lst us')) :=
  have g := Grow.write (o := .lst us') rh q
  k m _ u g (rh.write q (List.getElem?_eq_some_iff.mp hx).1 ⟨_, upd_same, rr.grow' g⟩) (rv.grow g)
theorem mb_append {X : Cx} {Γ : Gm} : MtR X "list.append" (rM Γ .append) := by
  intro pins s σ H x xs v us Q I rx rxs hq
  obtain ⟨L, m, h, a, as, z, h1, rh, ra, ras, e, k⟩ := hq
  unfold mthV at e
  dsimp only at e
  split at e
  · rename_i b
    obtain ⟨y, rfl, rb⟩ := rep1 ras
    unfold appendV at e
    split at e
    · rename_i n
      obtain ⟨p, rfl, q⟩ := ra
      split at e
      · rename_i l hl
        split at e
        · rename_i hz
          obtain ⟨rfl, rfl⟩ := R.ok_inj e
          obtain ⟨ws, e2, rr⟩ := rh.at_ q hl
          exact mt_append pins s σ H _ _ v us Q I rx rxs ⟨p, ws, y, rfl, rfl, e2, by rw [← rr.length, ← line_eq]; exact hz, k.wrote rh q hl (rr.append ⟨rb, trivial⟩) rfl⟩
        · cases e
      · cases e
    · cases e
  · cases e
theorem mb_extend {X : Cx} {Γ : Gm} : MtR X "list.extend" (rM Γ .extend) := by
  intro pins s σ H x xs v us Q I rx rxs hq
  obtain ⟨L, m, h, a, as, z, h1, rh, ra, ras, e, k⟩ := hq
  unfold mthV at e
  dsimp only at e
  split at e
  · rename_i b
    obtain ⟨y, rfl, rb⟩ := rep1 ras
    unfold extendV at e
    split at e
    · rename_i n
      obtain ⟨p, rfl, q⟩ := ra
      split at e
      · rename_i l hl
        split at e
        · rename_i ys
          split at e
          · rename_i hz
            obtain ⟨rfl, rfl⟩ := R.ok_inj e
            obtain ⟨ws, e2, rr⟩ := rh.at_ q hl
            obtain ⟨p2, ws2, rfl, e3, _, _, rr2⟩ := rb
            exact mt_extend pins s σ H _ _ v us Q I rx rxs ⟨p, p2, ws, ws2, rfl, rfl, e2, e3, by rw [← rr.length, ← rr2.length, ← line_eq]; exact hz, k.wrote rh q hl (rr.append rr2) rfl⟩
          · cases e
        · cases e
      · cases e
    · cases e
  · cases e
theorem RepL.eraseIdx {Γ : Gm} {L m : List Addr} {H : Hp} {xs : List Vl} {us : List V} (r : RepL Γ L m H xs us) (j : Nat) : RepL Γ L m H (xs.eraseIdx j) (us.eraseIdx j) := by
  induction j generalizing xs us with
  | zero => cases xs with
    | nil => cases us with
      | nil => exact trivial
      | cons _ _ => exact r.elim
    | cons y xs => cases us with
      | nil => exact r.elim
      | cons w us => exact r.2
  | succ j ih => cases xs with
    | nil => cases us with
      | nil => exact trivial
      | cons _ _ => exact r.elim
    | cons y xs => cases us with
      | nil => exact r.elim
      | cons w us => exact ⟨r.1, ih r.2⟩
theorem RepL.dropLast {Γ : Gm} {L m : List Addr} {H : Hp} {xs : List Vl} {us : List V} (r : RepL Γ L m H xs us) : RepL Γ L m H xs.dropLast us.dropLast := by
  rw [List.dropLast_eq_take, List.dropLast_eq_take, r.length]
  exact r.take _
theorem mb_pop0 {X : Cx} {Γ : Gm} : MtR X "list.pop" (rM Γ .pop0) := by
  intro pins s σ H x xs v us Q I rx rxs hq
  obtain ⟨L, m, h, a, as, z, h1, rh, ra, ras, e, k⟩ := hq
  unfold mthV at e
  dsimp only at e
  split at e
  · cases rep0 ras
    unfold popV at e
    split at e
    · rename_i n
      obtain ⟨p, rfl, q⟩ := ra
      split at e
      · rename_i l hl
        split at e
        · rename_i y hy
          obtain ⟨rfl, rfl⟩ := R.ok_inj e
          obtain ⟨ws, e2, rr⟩ := rh.at_ q hl
          rw [rr.length] at hy
          obtain ⟨w, hw, rw'⟩ := rr.get hy
          exact mt_pop pins s σ H _ _ v us Q I rx rxs ⟨p, ws, w, rfl, rfl, e2, hw, k.wrote rh q hl rr.dropLast rw'⟩
        · cases e
      · cases e
    · cases e
  · cases e
theorem mb_pop1 {X : Cx} {Γ : Gm} : MtR X "list.pop" (rM Γ .pop1) := by
  intro pins s σ H x xs v us Q I rx rxs hq
  obtain ⟨L, m, h, a, as, z, h1, rh, ra, ras, e, k⟩ := hq
  unfold mthV at e
  dsimp only at e
  split at e
  · rename_i b
    obtain ⟨y, rfl, rb⟩ := rep1 ras
    unfold popAtV at e
    split at e
    · rename_i n
      obtain ⟨p, rfl, q⟩ := ra
      split at e
      · rename_i l hl
        split at e
        · rename_i j
          cases (show y = _ from rb)
          split at e
          · rename_i hj
            split at e
            · rename_i w hw
              obtain ⟨rfl, rfl⟩ := R.ok_inj e
              obtain ⟨ws, e2, rr⟩ := rh.at_ q hl
              obtain ⟨w', hw', rw'⟩ := rr.get hw
              have hlt := (List.getElem?_eq_some_iff.mp hw').1
              refine mt_popAt pins s σ H _ _ v us Q I rx rxs ⟨p, ws, _, j, w', rfl, rfl, e2, ?_, ?_, ?_, hw', k.wrote rh q hl (rr.eraseIdx j) rw'⟩
              · show -(2 ^ 63) ≤ (j : Int)
                omega
              · show (j : Int) < 2 ^ 63
                omega
              · exact seqIndex_of (Int.natCast_nonneg j) (Int.ofNat_lt.mpr hlt)
            · cases e
          · cases e
        · cases e
      · cases e
    · cases e
  · cases e
end Mi
set_option Elab.async false
set_option linter.all false
set_option maxRecDepth 100000
set_option maxHeartbeats 4000000
namespace Mi
open PySem PySem.Spec PyProof.Rows L2
theorem pe_imp {X : Cx} {e : Expr} {t t' : TE} (h : PE X e t) (f : ∀ σ H Q, t' σ H Q → t σ H Q) : PE X e t' := ⟨fun pins s σ H Q I k => h.run pins s σ H Q I (f _ _ _ k)⟩
theorem pt_imp {X : Cx} {e : Expr} {t t' : TT} (h : PT X e t) (f : ∀ σ H Q, t' σ H Q → t σ H Q) : PT X e t' := ⟨fun pins s σ H Q I k => h.run pins s σ H Q I (f _ _ _ k)⟩
theorem pw_imp {X : Cx} {e : Expr} {t t' : TT} (h : PW X e t) (f : ∀ σ H Q, t' σ H Q → t σ H Q) : PW X e t' := ⟨fun wh pins s σ H Q I k => h.run wh pins s σ H Q I (f _ _ _ k)⟩
theorem pa_imp {X : Cx} {e : List Expr} {t t' : TA} (h : PA X e t) (f : ∀ σ H Q, t' σ H Q → t σ H Q) : PA X e t' := ⟨fun p pins s σ H Q I k => h.run p pins s σ H Q I (f _ _ _ k)⟩
theorem ps_imp {X : Cx} {e : Stmt} {t t' : TS} (h : PS X e t) (f : ∀ D σ H, t' D σ H → t D σ H) : PS X e t' := ⟨fun pins s σ H D I k => h.run pins s σ H D I (f _ _ _ k)⟩
theorem pss_imp {X : Cx} {e : List Stmt} {t t' : TS} (h : PSs X e t) (f : ∀ D σ H, t' D σ H → t D σ H) : PSs X e t' := ⟨fun pins s σ H D I k => h.run pins s σ H D I (f _ _ _ k)⟩
theorem pi_imp {X : Cx} {tg e : Expr} {t t' : TI} (h : PI X tg e t) (f : ∀ σ H Q, t' σ H Q → t σ H Q) : PI X tg e t' := ⟨fun pins s σ H Q I k => h.run pins s σ H Q I (f _ _ _ k)⟩
def RepX (Γ : Gm) (L m : List Addr) (H : Hp) (c : Nat) (p : Option Vl) (d : Option Addr) : Prop :=
  match p with
  | none => True
  | some v => ∃ a u, d = some a ∧ H a = some (.xd [(Γ.xf c, u)]) ∧ RepV Γ L m H v u
def okG {α β : Type} (Γ : Gm) (W : WX) (L m : List Addr) (H : Hp) (σ : L2.St) (rel : List Addr → Hp → α → β → Prop) (r : R α) (Q : β → Hp → Prop) : Prop :=
  match r with
  | .ok a h => ∀ m' H' u, Grow m H m' H' → RepH Γ L m' h H' → rel m' H' a u → Q u H'
  | .exc c p h => ∀ m' H' d, Grow m H m' H' → RepH Γ L m' h H' → RepX Γ L m' H' c p d → W (.ref (Γ.xa c)) d σ H'
  | .bad => False
theorem Grow.tr {Γ : Gm} {L m m1 m2 : List Addr} {H H1 H2 : Hp} {h1 : Hh} (a : Grow m H m1 H1) (r : RepH Γ L m1 h1 H1) (b : Grow m1 H1 m2 H2) : Grow m H m2 H2 :=
  a.trans b fun x hx => r.tracked x (a.mem hx)
section
variable {Γ : Gm} {W : WX} {L m : List Addr} {H : Hp} {σ : L2.St}
theorem okG.later {α β : Type} {rel : List Addr → Hp → α → β → Prop} {r : R α} {Q : β → Hp → Prop} (k : okG Γ W L m H σ rel r Q) {m1 : List Addr} {H1 : Hp} {h1 : Hh} (g : Grow m H m1 H1) (rh : RepH Γ L m1 h1 H1) : okG Γ W L m1 H1 σ rel r Q := by
  cases r with
  | ok a h => exact fun m' H' u g' => k m' H' u (g.tr rh g')
  | exc c p h => exact fun m' H' d g' => k m' H' d (g.tr rh g')
  | bad => exact k
theorem okG.bind {α β γ δ : Type} {rel : List Addr → Hp → α → β → Prop} {rel' : List Addr → Hp → γ → δ → Prop} {r : R α} {f : α → Hh → R γ} {Q : δ → Hp → Prop} {Q' : β → Hp → Prop} (k : okG Γ W L m H σ rel' (bnd r f) Q)
    (st : ∀ m1 H1 a h1 u, Grow m H m1 H1 → RepH Γ L m1 h1 H1 → rel m1 H1 a u → okG Γ W L m1 H1 σ rel' (f a h1) Q → Q' u H1) : okG Γ W L m H σ rel r Q' := by
  cases r with
  | ok a h => exact fun m' H' u g rh ru => st m' H' a h u g rh ru (okG.later k g rh)
  | exc c p h => exact k
  | bad => exact k
theorem bnd_bnd {α β γ : Type} (r : R α) (f : α → Hh → R β) (g : β → Hh → R γ) : bnd (bnd r f) g = bnd r fun a h => bnd (f a h) g := by
  cases r <;> rfl
theorem okG.lift {h : Hh} {o : Option Vl} {Q : VK} (k : okG Γ W L m H σ (fun m' H' => RepV Γ L m' H') (lift o h) Q) : ∃ z, o = some z ∧ okV Γ L m H h z Q := by
  cases o with
  | none => exact k.elim
  | some z => exact ⟨z, rfl, k⟩
end
def RepE (Γ : Gm) (L m : List Addr) (H : Hp) (env : Env) (σ : L2.St) : Prop := env.length = σ.length ∧ ∀ (i : Nat) v, env[i]? = some (some v) → ∃ u, σ[i]? = some (some u) ∧ RepV Γ L m H v u
theorem RepE.grow {Γ : Gm} {L m m1 : List Addr} {H H1 : Hp} {env : Env} {σ : L2.St} (g : Grow m H m1 H1) (r : RepE Γ L m H env σ) : RepE Γ L m1 H1 env σ := ⟨r.1, fun i v e => let ⟨u, h1, h2⟩ := r.2 i v e; ⟨u, h1, h2.grow g⟩⟩
structure Cn (X : Cx) (Γ : Gm) (W : WX) : Prop where
  prog : X.prog = Γ.P
  w : X.w = Γ.w
  K : X.K = Γ.K
  mg : X.mg = Γ.mg
  base : X.base = Γ.base
  calm : X.calm = true
  nd : X.N.Nodup
  un : X.A.units + 64 < cLine
  tk : Takes X W
theorem Cn.u1 {X : Cx} {Γ : Gm} {W : WX} (c : Cn X Γ W) : X.A.units + 1 < cLine := Nat.lt_of_le_of_lt (Nat.add_le_add_left (by decide : 1 ≤ 64) _) c.un
section
variable (Γ : Gm) (W : WX)
def tE (ev : Env → Hh → R Vl) : TE := fun σ H Q => ∃ L m h env, RepH Γ L m h H ∧ RepE Γ L m H env σ ∧ okG Γ W L m H σ (fun m' H' => RepV Γ L m' H') (ev env h) Q
def tL (ev : Env → Hh → R (List Vl)) : TA := fun σ H Q => ∃ L m h env, RepH Γ L m h H ∧ RepE Γ L m H env σ ∧ okG Γ W L m H σ (fun m' H' => RepL Γ L m' H') (ev env h) Q
def tB' (ev : Env → Hh → R Bool) : TT := fun σ H Q => ∃ L m h env, RepH Γ L m h H ∧ RepE Γ L m H env σ ∧ okG Γ W L m H σ (fun _ _ (a b : Bool) => a = b) (ev env h) Q
def tO' (ev : Env → Hh → R (Option Int)) : TO := fun σ H Q => ∃ L m h env, RepH Γ L m h H ∧ RepE Γ L m H env σ ∧ okG Γ W L m H σ (fun _ _ (a b : Option Int) => a = b) (ev env h) Q
def okF (L m : List Addr) (H : Hp) (σ : L2.St) (r : R (List Vl)) (Q : VK) : Prop :=
  match r with
  | .ok xs h => okN Γ L m H h xs Q
  | .exc c p h => ∀ m' H' d, Grow m H m' H' → RepH Γ L m' h H' → RepX Γ L m' H' c p d → W (.ref (Γ.xa c)) d σ H'
  | .bad => False
def tF (ev : Env → Hh → R (List Vl)) : TE := fun σ H Q => ∃ L m h env, RepH Γ L m h H ∧ RepE Γ L m H env σ ∧ okF Γ W L m H σ (ev env h) Q
end
def tru (ev : Env → Hh → R Vl) : Env → Hh → R Bool := fun env h => bnd (ev env h) fun x h => lift (truth h x) h
section
variable {Γ : Gm} {W : WX} {L m : List Addr} {H : Hp} {σ : L2.St}
theorem okN.later {h : Hh} {xs : List Vl} {Q : VK} (k : okN Γ L m H h xs Q) {m1 : List Addr} {H1 : Hp} {h1 : Hh} (g : Grow m H m1 H1) (rh : RepH Γ L m1 h1 H1) : okN Γ L m1 H1 h xs Q := fun m' H' D us g' hD n1 n2 e rr rh' => by
  refine k m' H' D us (g.tr rh g') ?_ n1 n2 e rr rh'
  rcases free_back g hD with z | z
  · exact z
  · obtain ⟨o, ho⟩ := rh.tracked D (g.mem z)
    rw [ho] at hD
    cases hD
theorem okF.later {r : R (List Vl)} {Q : VK} (k : okF Γ W L m H σ r Q) {m1 : List Addr} {H1 : Hp} {h h1 : Hh} (r0 : RepH Γ L m h H) (g : Grow m H m1 H1) (rh : RepH Γ L m1 h1 H1) : okF Γ W L m1 H1 σ r Q := by
  cases r with
  | ok a h => exact okN.later k g rh
  | exc c p h => exact fun m' H' d g' => k m' H' d (g.tr rh g')
  | bad => exact k
theorem okF.bind {α β : Type} {rel : List Addr → Hp → α → β → Prop} {r : R α} {f : α → Hh → R (List Vl)} {Q : VK} {Q' : β → Hp → Prop} {h : Hh} (r0 : RepH Γ L m h H) (k : okF Γ W L m H σ (bnd r f) Q)
    (st : ∀ m1 H1 a h1 u, Grow m H m1 H1 → RepH Γ L m1 h1 H1 → rel m1 H1 a u → okF Γ W L m1 H1 σ (f a h1) Q → Q' u H1) : okG Γ W L m H σ rel r Q' := by
  cases r with
  | ok a h => exact fun m' H' u g rh ru => st m' H' a h u g rh ru (okF.later k r0 g rh)
  | exc c p h => exact k
  | bad => exact k
theorem okF.lift {h : Hh} {o : Option (List Vl)} {Q : VK} (k : okF Γ W L m H σ (lift o h) Q) : ∃ z, o = some z ∧ okN Γ L m H h z Q := by
  cases o with
  | none => exact k.elim
  | some z => exact ⟨z, rfl, k⟩
theorem okF.fz {r : R (List Vl)} {Q : VK} {h : Hh} (r0 : RepH Γ L m h H) (k : okG Γ W L m H σ (fun m' H' => RepV Γ L m' H') (bnd r fun xs h => .ok (.lst xs) h) Q) : okF Γ W L m H σ r Q := by
  cases r with
  | ok xs h => exact fun m' H' D us g hD n1 n2 e rr rh => k m' H' (.ref D) g rh.joined ⟨D, us, rfl, e, n1, n2, rr.joined⟩
  | exc c p h => exact k
  | bad => exact k
theorem okF.th {r : R (List Vl)} {Q : VK} {h : Hh} (r0 : RepH Γ L m h H) (k : okG Γ W L m H σ (fun m' H' => RepV Γ L m' H') (bnd r fun xs h => .ok (.ref h.length) (h ++ [.lst xs])) Q) : okF Γ W L m H σ r Q := by
  cases r with
  | ok xs h =>
    refine fun m' H' D us g hD n1 n2 e rr rh => k (m' ++ [D]) H' (.ref D) ⟨?_, g.keep, g.tup, g.frz, g.own⟩ (rh.moved n1 n2 e rr) ⟨D, rfl, ?_⟩
    · obtain ⟨t, e1, f⟩ := g.ext
      refine ⟨t ++ [D], by rw [e1, List.append_assoc], fun a ha => ?_⟩
      rcases List.mem_append.mp ha with z | z
      · exact f a z
      · rw [List.mem_singleton.mp z]
        exact hD
    · rw [← rh.len, List.getElem?_append_right (Nat.le_refl _), Nat.sub_self]
      rfl
  | exc c p h => exact k
  | bad => exact k
end
section
variable {X : Cx} {Γ : Gm} {W : WX} {a b c : Expr} {pos : Pos} {ea eb ec : Env → Hh → R Vl}
theorem s_var {i : Nat} {x : Str} (hN : X.N[i]? = some x) (hv : Vis X.env.scope x) (hd : (x == ("__debug__" : Str)) = false) (hcd : (x == ("__classdict__" : Str)) = false) :
    PE X (.Name x pos) (tE Γ W fun env h => match env[i]? with
      | some (some v) => .ok v h
      | _ => .bad) := by
  refine pe_imp (pe_var hN hv hd hcd) fun σ H Q hq => ?_
  obtain ⟨L, m, h, env, rh, re, k⟩ := hq
  dsimp only at k
  split at k
  · rename_i v hv
    obtain ⟨u, e, r⟩ := re.2 i v hv
    exact ⟨u, e, k m H u (Grow.refl m H) rh r⟩
  · exact k.elim
theorem s_const {v : Vl} {u : V} {e : Expr} (h : PE X e (tC u)) (r : ∀ L m H, RepV Γ L m H v u) : PE X e (tE Γ W fun _ h => .ok v h) := by
  refine pe_imp h fun σ H Q hq => ?_
  obtain ⟨L, m, h, env, rh, re, k⟩ := hq
  exact k m H u (Grow.refl m H) rh (r _ _ _)
theorem s_bin (C : Cn X Γ W) (o : BO) (ha : PE X a (tE Γ W ea)) (hb : PE X b (tE Γ W eb)) :
    PE X (.BinOp a (bo o) b pos) (tE Γ W fun env h => bnd (ea env h) fun x h => bnd (eb env h) fun y h => lift (binV o h x y) h) := by
  refine pe_imp (pe_op (op_binV (Γ := Γ) C.K o) ha hb) fun σ H Q hq => ?_
  obtain ⟨L, m, h, env, rh, re, k⟩ := hq
  refine ⟨L, m, h, env, rh, re, k.bind fun m1 H1 x h1 u g1 rh1 rx k1 => ⟨L, m1, h1, env, rh1, re.grow g1, k1.bind fun m2 H2 y h2 v g2 rh2 ry k2 => ?_⟩⟩
  obtain ⟨z, ez, kz⟩ := k2.lift
  exact ⟨L, m2, h2, x, y, z, rh2, rx.grow g2, ry, ez, kz⟩
theorem s_cat (C : Cn X Γ W) (ha : PE X a (tE Γ W ea)) (hb : PE X b (tE Γ W eb)) :
    PE X (.BinOp a .Add b pos) (tF Γ W fun env h => bnd (ea env h) fun x h => bnd (eb env h) fun y h => lift (catV h x y) h) := by
  refine pe_imp (pe_op (op_catV (Γ := Γ)) ha hb) fun σ H Q hq => ?_
  obtain ⟨L, m, h, env, rh, re, k⟩ := hq
  refine ⟨L, m, h, env, rh, re, okF.bind rh k fun m1 H1 x h1 u g1 rh1 rx k1 => ⟨L, m1, h1, env, rh1, re.grow g1, okF.bind rh1 k1 fun m2 H2 y h2 v g2 rh2 ry k2 => ?_⟩⟩
  obtain ⟨z, ez, kz⟩ := k2.lift
  exact ⟨L, m2, h2, x, y, z, rh2, rx.grow g2, ry, ez, kz⟩
theorem s_rep (C : Cn X Γ W) (ha : PE X a (tE Γ W ea)) (hb : PE X b (tE Γ W eb)) :
    PE X (.BinOp a .Mult b pos) (tF Γ W fun env h => bnd (ea env h) fun x h => bnd (eb env h) fun y h => lift (repV h x y) h) := by
  refine pe_imp (pe_op (op_repV (Γ := Γ)) ha hb) fun σ H Q hq => ?_
  obtain ⟨L, m, h, env, rh, re, k⟩ := hq
  refine ⟨L, m, h, env, rh, re, okF.bind rh k fun m1 H1 x h1 u g1 rh1 rx k1 => ⟨L, m1, h1, env, rh1, re.grow g1, okF.bind rh1 k1 fun m2 H2 y h2 v g2 rh2 ry k2 => ?_⟩⟩
  obtain ⟨z, ez, kz⟩ := k2.lift
  exact ⟨L, m2, h2, x, y, z, rh2, rx.grow g2, ry, ez, kz⟩
def negV : Vl → Hh → R Vl := fun x h => match x with
  | .int i => .ok (.int (-i)) h
  | _ => .bad
theorem s_neg (ha : PE X a (tE Γ W ea)) : PE X (.UnaryOp .USub a pos) (tE Γ W fun env h => bnd (ea env h) negV) := by
  refine pe_imp (pe_un un_neg ha) fun σ H Q hq => ?_
  obtain ⟨L, m, h, env, rh, re, k⟩ := hq
  refine ⟨L, m, h, env, rh, re, k.bind fun m1 H1 x h1 u g1 rh1 rx k1 => ?_⟩
  unfold negV at k1
  split at k1
  · exact ⟨_, rx, k1 m1 H1 _ (Grow.refl _ _) rh1 rfl⟩
  · exact k1.elim
def cmpR (o : CO) (h : Hh) (x y : Vl) : R Vl := match cmpV o h x y with
  | some c => .ok (.bl c) h
  | none => .bad
theorem cmpR_some {L m : List Addr} {H : Hp} {σ : L2.St} {o : CO} {h : Hh} {x y : Vl} {γ δ : Type} {rel : List Addr → Hp → γ → δ → Prop} {f : Vl → Hh → R γ} {Q : δ → Hp → Prop} (k : okG Γ W L m H σ rel (bnd (cmpR o h x y) f) Q) : ∃ c, cmpV o h x y = some c ∧ okG Γ W L m H σ rel (f (.bl c) h) Q := by
  unfold cmpR at k
  split at k
  · rename_i c hc
    exact ⟨c, hc, k⟩
  · exact k.elim
theorem bnd_ok {α : Type} (r : R α) : bnd r (fun a h => .ok a h) = r := by cases r <;> rfl
theorem s_cmp (C : Cn X Γ W) (o : CO) (ha : PE X a (tE Γ W ea)) (hb : PE X b (tE Γ W eb)) (hm : behindInMarks (co o) b = false) :
    PE X (.Compare a [co o] [b] pos) (tE Γ W fun env h => bnd (ea env h) fun x h => bnd (eb env h) fun y h => cmpR o h x y) := by
  refine pe_imp (pe_cmpR (op_cmpV (Γ := Γ) C.K C.un o) ha hb hm) fun σ H Q hq => ?_
  obtain ⟨L, m, h, env, rh, re, k⟩ := hq
  refine ⟨L, m, h, env, rh, re, k.bind fun m1 H1 x h1 u g1 rh1 rx k1 => ⟨L, m1, h1, env, rh1, re.grow g1, k1.bind fun m2 H2 y h2 v g2 rh2 ry k2 => ?_⟩⟩
  rw [← bnd_ok (cmpR o h2 x y)] at k2
  obtain ⟨c, ec, kc⟩ := cmpR_some k2
  exact ⟨L, m2, h2, x, y, c, rh2, rx.grow g2, ry, ec, kc m2 H2 _ (Grow.refl _ _) rh2 rfl⟩
theorem t_cmp (C : Cn X Γ W) (o : CO) (ha : PE X a (tE Γ W ea)) (hb : PE X b (tE Γ W eb)) (hm : behindInMarks (co o) b = false) :
    PT X (.Compare a [co o] [b] pos) (tB' Γ W (tru fun env h => bnd (ea env h) fun x h => bnd (eb env h) fun y h => cmpR o h x y)) := by
  refine pt_imp (pt_cmpR (op_cmpV (Γ := Γ) C.K C.un o) ha hb hm) fun σ H Q hq => ?_
  obtain ⟨L, m, h, env, rh, re, k⟩ := hq
  unfold tru at k
  rw [bnd_bnd] at k
  refine ⟨L, m, h, env, rh, re, k.bind fun m1 H1 x h1 u g1 rh1 rx k1 => ?_⟩
  rw [bnd_bnd] at k1
  refine ⟨L, m1, h1, env, rh1, re.grow g1, k1.bind fun m2 H2 y h2 v g2 rh2 ry k2 => ?_⟩
  obtain ⟨c, ec, kc⟩ := cmpR_some k2
  exact ⟨L, m2, h2, x, y, c, rh2, rx.grow g2, ry, ec, c, rfl, kc m2 H2 c (Grow.refl _ _) rh2 rfl⟩
def chainR (o : CO) (h : Hh) (x y : Vl) (f : R Vl) : R Vl := match cmpV o h x y with
  | some true => f
  | some false => .ok (.bl false) h
  | none => .bad
theorem s_chain (C : Cn X Γ W) (o p : CO) (ha : PE X a (tE Γ W ea)) (hb : PE X b (tE Γ W eb)) (hc : PE X c (tE Γ W ec)) (hm : lastMarks [co o, co p] [b, c] = false) :
    PE X (.Compare a [co o, co p] [b, c] pos) (tE Γ W fun env h => bnd (ea env h) fun x h => bnd (eb env h) fun y h => chainR o h x y (bnd (ec env h) fun z h => cmpR p h y z)) := by
  refine pe_imp (pe_chain (op_cmpV (Γ := Γ) C.K C.un o) (op_cmpV (Γ := Γ) C.K C.un p) ha hb hc hm) fun σ H Q hq => ?_
  obtain ⟨L, m, h, env, rh, re, k⟩ := hq
  refine ⟨L, m, h, env, rh, re, k.bind fun m1 H1 x h1 u g1 rh1 rx k1 => ⟨L, m1, h1, env, rh1, re.grow g1, k1.bind fun m2 H2 y h2 v g2 rh2 ry k2 => ?_⟩⟩
  unfold chainR at k2
  split at k2
  · rename_i ec
    refine ⟨L, m2, h2, x, y, true, rh2, rx.grow g2, ry, ec, true, rfl, ?_⟩
    rw [if_pos rfl]
    refine ⟨L, m2, h2, env, rh2, (re.grow g1).grow g2, k2.bind fun m3 H3 z h3 w g3 rh3 rz k3 => ?_⟩
    rw [← bnd_ok (cmpR p h3 y z)] at k3
    obtain ⟨d, ed, kd⟩ := cmpR_some k3
    exact ⟨L, m3, h3, y, z, d, rh3, ry.grow g3, rz, ed, kd m3 H3 _ (Grow.refl _ _) rh3 rfl⟩
  · rename_i ec
    refine ⟨L, m2, h2, x, y, false, rh2, rx.grow g2, ry, ec, false, rfl, ?_⟩
    rw [if_neg Bool.false_ne_true]
    exact k2 m2 H2 _ (Grow.refl _ _) rh2 rfl
  · exact k2.elim
theorem t_chain (C : Cn X Γ W) (o p : CO) (ha : PE X a (tE Γ W ea)) (hb : PE X b (tE Γ W eb)) (hc : PE X c (tE Γ W ec)) (hm : lastMarks [co o, co p] [b, c] = false) :
    PT X (.Compare a [co o, co p] [b, c] pos) (tB' Γ W (tru fun env h => bnd (ea env h) fun x h => bnd (eb env h) fun y h => chainR o h x y (bnd (ec env h) fun z h => cmpR p h y z))) := by
  refine pt_imp (pt_chain (op_cmpV (Γ := Γ) C.K C.un o) (op_cmpV (Γ := Γ) C.K C.un p) ha hb hc hm) fun σ H Q hq => ?_
  obtain ⟨L, m, h, env, rh, re, k⟩ := hq
  unfold tru at k
  rw [bnd_bnd] at k
  refine ⟨L, m, h, env, rh, re, k.bind fun m1 H1 x h1 u g1 rh1 rx k1 => ?_⟩
  rw [bnd_bnd] at k1
  refine ⟨L, m1, h1, env, rh1, re.grow g1, k1.bind fun m2 H2 y h2 v g2 rh2 ry k2 => ?_⟩
  unfold chainR at k2
  split at k2
  · rename_i ec
    refine ⟨L, m2, h2, x, y, true, rh2, rx.grow g2, ry, ec, true, rfl, ?_⟩
    rw [if_pos rfl]
    rw [bnd_bnd] at k2
    refine ⟨L, m2, h2, env, rh2, (re.grow g1).grow g2, k2.bind fun m3 H3 z h3 w g3 rh3 rz k3 => ?_⟩
    obtain ⟨d, ed, kd⟩ := cmpR_some k3
    exact ⟨L, m3, h3, y, z, d, rh3, ry.grow g3, rz, ed, d, rfl, kd m3 H3 _ (Grow.refl _ _) rh3 rfl⟩
  · rename_i ec
    refine ⟨L, m2, h2, x, y, false, rh2, rx.grow g2, ry, ec, false, rfl, ?_⟩
    rw [if_neg Bool.false_ne_true]
    exact ⟨false, rfl, k2 m2 H2 _ (Grow.refl _ _) rh2 rfl⟩
  · exact k2.elim
theorem t_plain (C : Cn X Γ W) (ha : PE X a (tE Γ W ea)) (he : ∀ whole, isTrue a X.env whole = (do let v ← whole; standAt a.pos; holding [v] (truthy v))) : PT X a (tB' Γ W (tru ea)) := by
  refine ⟨fun pins s σ H Q I hq => ?_⟩
  obtain ⟨L, m, h, env, rh, re, k⟩ := hq
  refine isTrue_plain (thn (ha.run pins s σ H (fun x H1 => ∃ L m h a c, RepH Γ L m h H1 ∧ RepV Γ L m H1 a x ∧ truth h a = some c ∧ Q c H1) I ⟨L, m, h, env, rh, re, k.bind fun m1 H1 x h1 u g1 rh1 rx k1 => ?_⟩) fun v s1 ⟨x, H1, I1, r1, q1⟩ => tru_truth C.K pins s1 σ H1 x v Q I1 r1 q1) (he _)
  cases ht : truth h1 x with
  | none =>
    rw [ht] at k1
    exact k1.elim
  | some c =>
    rw [ht] at k1
    exact ⟨L, m1, h1, x, c, rh1, rx, ht, k1 m1 H1 c (Grow.refl _ _) rh1 rfl⟩
def andR (x : Vl) (h : Hh) (f : R Vl) : R Vl := match x with
  | .bl true => f
  | .bl false => .ok (.bl false) h
  | _ => .bad
def orR (x : Vl) (h : Hh) (f : R Vl) : R Vl := match x with
  | .bl true => .ok (.bl true) h
  | .bl false => f
  | _ => .bad
theorem okG.now {L m : List Addr} {H : Hp} {σ : L2.St} {α β : Type} {rel : List Addr → Hp → α → β → Prop} {v : α} {u : β} {h : Hh} {Q : β → Hp → Prop} (k : okG Γ W L m H σ rel (.ok v h) Q) (rh : RepH Γ L m h H) (r : rel m H v u) : Q u H := k m H u (Grow.refl _ _) rh r
theorem s_and1 {p : Pos} (ha : PE X a (tE Γ W ea)) : PE X (.BoolOp .And [a] p) (tE Γ W ea) := pe_one ha
theorem s_or1 {p : Pos} (ha : PE X a (tE Γ W ea)) : PE X (.BoolOp .Or [a] p) (tE Γ W ea) := pe_one ha
theorem w_and1 {p : Pos} (ha : PT X a (tB' Γ W (tru ea))) : PW X (.BoolOp .And [a] p) (tB' Γ W (tru ea)) := pw_and1 ha
theorem w_or1 {p : Pos} (ha : PT X a (tB' Γ W (tru ea))) : PW X (.BoolOp .Or [a] p) (tB' Γ W (tru ea)) := pw_or1 ha
theorem s_and {es : List Expr} (ha : PE X a (tE Γ W ea)) (hb : PE X (.BoolOp .And (b :: es) pos) (tE Γ W eb)) : PE X (.BoolOp .And (a :: b :: es) pos) (tE Γ W fun env h => bnd (ea env h) fun x h => andR x h (eb env h)) := by
  refine pe_imp (pe_and ha hb) fun σ H Q hq => ?_
  obtain ⟨L, m, h, env, rh, re, k⟩ := hq
  refine ⟨L, m, h, env, rh, re, k.bind fun m1 H1 x h1 u g1 rh1 rx k1 => ?_⟩
  unfold andR at k1
  split at k1
  · refine ⟨true, rx, ?_⟩
    rw [if_pos rfl]
    exact ⟨L, m1, h1, env, rh1, re.grow g1, k1⟩
  · refine ⟨false, rx, ?_⟩
    rw [if_neg Bool.false_ne_true]
    exact k1.now rh1 rfl
  · exact k1.elim
theorem s_or {es : List Expr} (ha : PE X a (tE Γ W ea)) (hb : PE X (.BoolOp .Or (b :: es) pos) (tE Γ W eb)) : PE X (.BoolOp .Or (a :: b :: es) pos) (tE Γ W fun env h => bnd (ea env h) fun x h => orR x h (eb env h)) := by
  refine pe_imp (pe_or ha hb) fun σ H Q hq => ?_
  obtain ⟨L, m, h, env, rh, re, k⟩ := hq
  refine ⟨L, m, h, env, rh, re, k.bind fun m1 H1 x h1 u g1 rh1 rx k1 => ?_⟩
  unfold orR at k1
  split at k1
  · refine ⟨true, rx, ?_⟩
    rw [if_pos rfl]
    exact k1.now rh1 rfl
  · refine ⟨false, rx, ?_⟩
    rw [if_neg Bool.false_ne_true]
    exact ⟨L, m1, h1, env, rh1, re.grow g1, k1⟩
  · exact k1.elim
theorem w_and {es : List Expr} (ha : PT X a (tB' Γ W (tru ea))) (hb : PW X (.BoolOp .And (b :: es) pos) (tB' Γ W (tru eb))) : PW X (.BoolOp .And (a :: b :: es) pos) (tB' Γ W (tru fun env h => bnd (ea env h) fun x h => andR x h (eb env h))) := by
  refine pw_imp (pw_and ha hb) fun σ H Q hq => ?_
  obtain ⟨L, m, h, env, rh, re, k⟩ := hq
  unfold tru at k
  rw [bnd_bnd] at k
  refine ⟨L, m, h, env, rh, re, ?_⟩
  unfold tru
  cases hr : ea env h with
  | exc c p h1 =>
    rw [hr] at k
    exact k
  | bad =>
    rw [hr] at k
    exact k
  | ok x h1 =>
    rw [hr] at k
    show okG Γ W L m H σ _ (lift (truth h1 x) h1) _
    have k : okG Γ W L m H σ (fun _ _ (a b : Bool) => a = b) (bnd (andR x h1 (eb env h1)) fun x h => lift (truth h x) h) Q := k
    unfold andR at k
    split at k
    · intro m1 H1 u g1 rh1 e
      cases e
      rw [if_pos rfl]
      exact ⟨L, m1, h1, env, rh1, re.grow g1, okG.later k g1 rh1⟩
    · intro m1 H1 u g1 rh1 e
      cases e
      rw [if_neg Bool.false_ne_true]
      exact k m1 H1 false g1 rh1 rfl
    · exact k.elim
theorem w_or {es : List Expr} (ha : PT X a (tB' Γ W (tru ea))) (hb : PW X (.BoolOp .Or (b :: es) pos) (tB' Γ W (tru eb))) : PW X (.BoolOp .Or (a :: b :: es) pos) (tB' Γ W (tru fun env h => bnd (ea env h) fun x h => orR x h (eb env h))) := by
  refine pw_imp (pw_or ha hb) fun σ H Q hq => ?_
  obtain ⟨L, m, h, env, rh, re, k⟩ := hq
  unfold tru at k
  rw [bnd_bnd] at k
  refine ⟨L, m, h, env, rh, re, ?_⟩
  unfold tru
  cases hr : ea env h with
  | exc c p h1 =>
    rw [hr] at k
    exact k
  | bad =>
    rw [hr] at k
    exact k
  | ok x h1 =>
    rw [hr] at k
    show okG Γ W L m H σ _ (lift (truth h1 x) h1) _
    have k : okG Γ W L m H σ (fun _ _ (a b : Bool) => a = b) (bnd (orR x h1 (eb env h1)) fun x h => lift (truth h x) h) Q := k
    unfold orR at k
    split at k
    · intro m1 H1 u g1 rh1 e
      cases e
      rw [if_pos rfl]
      exact k m1 H1 true g1 rh1 rfl
    · intro m1 H1 u g1 rh1 e
      cases e
      rw [if_neg Bool.false_ne_true]
      exact ⟨L, m1, h1, env, rh1, re.grow g1, okG.later k g1 rh1⟩
    · exact k.elim
def notR (x : Vl) (h : Hh) : R Vl := match truth h x with
  | some b => .ok (.bl (!b)) h
  | none => .bad
theorem t_not (ha : PT X a (tB' Γ W (tru ea))) : PT X (.UnaryOp .Not a pos) (tB' Γ W (tru fun env h => bnd (ea env h) notR)) := by
  refine pt_imp (pt_not ha) fun σ H Q hq => ?_
  obtain ⟨L, m, h, env, rh, re, k⟩ := hq
  unfold tru at k
  rw [bnd_bnd] at k
  refine ⟨L, m, h, env, rh, re, ?_⟩
  unfold tru
  cases hr : ea env h with
  | exc c p h1 =>
    rw [hr] at k
    exact k
  | bad =>
    rw [hr] at k
    exact k
  | ok x h1 =>
    rw [hr] at k
    show okG Γ W L m H σ _ (lift (truth h1 x) h1) _
    have k : okG Γ W L m H σ (fun _ _ (a b : Bool) => a = b) (bnd (notR x h1) fun x h => lift (truth h x) h) Q := k
    unfold notR at k
    cases ht : truth h1 x with
    | none =>
      rw [ht] at k
      exact k.elim
    | some b =>
      rw [ht] at k
      intro m1 H1 u g1 rh1 e
      cases e
      exact k m1 H1 (!b) g1 rh1 rfl
theorem s_not (C : Cn X Γ W) (ha : PE X a (tE Γ W ea)) : PE X (.UnaryOp .Not a pos) (tE Γ W fun env h => bnd (ea env h) notR) := by
  refine ⟨fun pins s σ H Q I hq => ?_⟩
  obtain ⟨L, m, h, env, rh, re, k⟩ := hq
  refine UnaryOp_ (thn (ha.run pins s σ H (fun x H1 => ∃ L m h a c, RepH Γ L m h H1 ∧ RepV Γ L m H1 a x ∧ truth h a = some c ∧ Q (.bl (!c)) H1) I ⟨L, m, h, env, rh, re, k.bind fun m1 H1 x h1 u g1 rh1 rx k1 => ?_⟩) fun v s1 ⟨x, H1, I1, r1, L, m, h, a, c, q1, q2, q3, q4⟩ =>
    not_of (thn (tru_truth C.K pins s1 σ H1 x v (fun c H2 => Q (.bl (!c)) H2) I1 r1 ⟨L, m, h, a, c, q1, q2, q3, q4⟩) fun b s2 ⟨H2, I2, q⟩ => ⟨.bl (!b), H2, I2, rfl, q⟩))
  unfold notR at k1
  split at k1
  · rename_i b hb
    exact ⟨L, m1, h1, x, b, rh1, rx, hb, k1.now rh1 rfl⟩
  · exact k1.elim
def iteR (x : Vl) (h : Hh) (f g : R Vl) : R Vl := match truth h x with
  | some true => f
  | some false => g
  | none => .bad
theorem s_ite (hc : PT X c (tB' Γ W (tru ec))) (ha : PE X a (tE Γ W ea)) (hb : PE X b (tE Γ W eb)) : PE X (.IfExp c a b pos) (tE Γ W fun env h => bnd (ec env h) fun x h => iteR x h (ea env h) (eb env h)) := by
  refine pe_imp (pe_ifExp hc ha hb) fun σ H Q hq => ?_
  obtain ⟨L, m, h, env, rh, re, k⟩ := hq
  dsimp only at k
  refine ⟨L, m, h, env, rh, re, ?_⟩
  unfold tru
  cases hr : ec env h with
  | exc c p h1 =>
    rw [hr] at k
    exact k
  | bad =>
    rw [hr] at k
    exact k
  | ok x h1 =>
    rw [hr] at k
    have k : okG Γ W L m H σ (fun m' H' => RepV Γ L m' H') (iteR x h1 (ea env h1) (eb env h1)) Q := k
    show okG Γ W L m H σ _ (lift (truth h1 x) h1) _
    unfold iteR at k
    split at k
    · rename_i ht
      rw [ht]
      intro m1 H1 u g1 rh1 e
      cases e
      rw [if_pos rfl]
      exact ⟨L, m1, h1, env, rh1, re.grow g1, okG.later k g1 rh1⟩
    · rename_i ht
      rw [ht]
      intro m1 H1 u g1 rh1 e
      cases e
      rw [if_neg Bool.false_ne_true]
      exact ⟨L, m1, h1, env, rh1, re.grow g1, okG.later k g1 rh1⟩
    · exact k.elim
theorem t_ite (hc : PT X c (tB' Γ W (tru ec))) (ha : PT X a (tB' Γ W (tru ea))) (hb : PT X b (tB' Γ W (tru eb))) : PT X (.IfExp c a b pos) (tB' Γ W (tru fun env h => bnd (ec env h) fun x h => iteR x h (ea env h) (eb env h))) := by
  refine ⟨fun pins s σ H Q I hq => ?_⟩
  obtain ⟨L, m, h, env, rh, re, k⟩ := hq
  unfold tru at k
  rw [bnd_bnd] at k
  refine isTrue_IfExp (thn (hc.run pins s σ H (fun d H1 => if d = true then tB' Γ W (tru ea) σ H1 Q else tB' Γ W (tru eb) σ H1 Q) I ⟨L, m, h, env, rh, re, ?_⟩) fun d s1 ⟨H1, I1, q1⟩ => ?_)
  · unfold tru
    cases hr : ec env h with
    | exc c p h1 =>
      rw [hr] at k
      exact k
    | bad =>
      rw [hr] at k
      exact k
    | ok x h1 =>
      rw [hr] at k
      have k : okG Γ W L m H σ (fun _ _ (a b : Bool) => a = b) (bnd (iteR x h1 (ea env h1) (eb env h1)) fun x h => lift (truth h x) h) Q := k
      show okG Γ W L m H σ _ (lift (truth h1 x) h1) _
      unfold iteR at k
      split at k
      · rename_i ht
        rw [ht]
        intro m1 H1 u g1 rh1 e
        cases e
        rw [if_pos rfl]
        exact ⟨L, m1, h1, env, rh1, re.grow g1, okG.later k g1 rh1⟩
      · rename_i ht
        rw [ht]
        intro m1 H1 u g1 rh1 e
        cases e
        rw [if_neg Bool.false_ne_true]
        exact ⟨L, m1, h1, env, rh1, re.grow g1, okG.later k g1 rh1⟩
      · exact k.elim
  · cases d with
    | true => exact ha.run pins s1 σ H1 Q I1 q1
    | false => exact hb.run pins s1 σ H1 Q I1 q1
variable {es : List Expr} {el : Env → Hh → R (List Vl)}
theorem a_nil : PA X [] (tL Γ W fun _ h => .ok [] h) := by
  refine pa_imp pa_nil fun σ H Q hq => ?_
  obtain ⟨L, m, h, env, rh, re, k⟩ := hq
  exact k.now (u := []) rh trivial
theorem a_cons (ha : PE X a (tE Γ W ea)) (hr : PA X es (tL Γ W el)) (hs : starEach (a :: es) X.env = (false, eval a X.env) :: starEach es X.env) :
    PA X (a :: es) (tL Γ W fun env h => bnd (ea env h) fun x h => bnd (el env h) fun xs h => .ok (x :: xs) h) := by
  refine pa_imp (pa_cons ha hr hs) fun σ H Q hq => ?_
  obtain ⟨L, m, h, env, rh, re, k⟩ := hq
  exact ⟨L, m, h, env, rh, re, k.bind fun m1 H1 x h1 u g1 rh1 rx k1 => ⟨L, m1, h1, env, rh1, re.grow g1, k1.bind fun m2 H2 xs h2 us g2 rh2 rxs k2 => k2.now (u := u :: us) rh2 ⟨rx.grow g2, rxs⟩⟩⟩
def starR (x : Vl) (h : Hh) (f : R (List Vl)) : R (List Vl) := match seqOf h x with
  | some ys => bnd f fun xs h => .ok (ys ++ xs) h
  | none => .bad
theorem a_star {p : Pos} (C : Cn X Γ W) (ha : PE X a (tE Γ W ea)) (hr : PA X es (tL Γ W el)) :
    PA X (.Starred a p :: es) (tL Γ W fun env h => bnd (ea env h) fun x h => starR x h (el env h)) := by
  refine pa_imp (StX.pa_star ha hr) fun σ H Q hq => ?_
  obtain ⟨L, m, h, env, rh, re, k⟩ := hq
  refine ⟨L, m, h, env, rh, re, k.bind fun m1 H1 x h1 u g1 rh1 rx k1 => ?_⟩
  unfold starR at k1
  split at k1
  · rename_i ys hy
    obtain ⟨q, us, e, sq, rr⟩ := seqOf_rep rh1 rx hy
    refine ⟨q, us, e, ?_, L, m1, h1, env, rh1, re.grow g1, k1.bind fun m2 H2 xs h2 vs g2 rh2 rxs k2 => k2.now (u := us ++ vs) rh2 ((rr.grow' g2).append rxs)⟩
    rw [C.K]
    exact sq.symm
  · exact k1.elim
def tupR (xs : List Vl) (h : Hh) : R Vl := match decide (xs.length ≤ line) with
  | true => .ok (.tup xs) h
  | false => .bad
theorem s_tup {k} (ha : PA X es (tL Γ W el)) : PE X (.Tuple es k pos) (tE Γ W fun env h => bnd (el env h) tupR) := by
  refine pe_imp (pe_tup ha) fun σ H Q hq => ?_
  obtain ⟨L, m, h, env, rh, re, k⟩ := hq
  refine ⟨L, m, h, env, rh, re, k.bind fun m1 H1 xs h1 us g1 rh1 rx k1 => ?_⟩
  unfold tupR at k1
  split at k1
  · rename_i hd
    refine ⟨by rw [← rx.length, ← line_eq]; exact of_decide_eq_true hd, fun p hp => ?_⟩
    exact okV.newT k1 rh1 hp rx
  · exact k1.elim
def dispR (xs : List Vl) (h : Hh) : R (List Vl) := match decide (xs.length ≤ line) with
  | true => .ok xs h
  | false => .bad
theorem f_disp (ha : PA X es (tL Γ W el)) : PE X (.List es pos) (tF Γ W fun env h => bnd (el env h) dispR) := by
  refine pe_imp (pe_lst ha) fun σ H Q hq => ?_
  obtain ⟨L, m, h, env, rh, re, k⟩ := hq
  refine ⟨L, m, h, env, rh, re, okF.bind rh k fun m1 H1 xs h1 us g1 rh1 rx k1 => ?_⟩
  unfold dispR at k1
  split at k1
  · rename_i hd
    refine ⟨by rw [← rx.length, ← line_eq]; exact of_decide_eq_true hd, fun p hp => ?_⟩
    exact okN.new k1 rh1 hp rx
  · exact k1.elim
theorem s_fz {ef : Env → Hh → R (List Vl)} (h : PE X a (tF Γ W ef)) : PE X a (tE Γ W fun env h => bnd (ef env h) fun xs h => .ok (.lst xs) h) := by
  refine pe_imp h fun σ H Q hq => ?_
  obtain ⟨L, m, h, env, rh, re, k⟩ := hq
  exact ⟨L, m, h, env, rh, re, okF.fz rh k⟩
theorem s_th {ef : Env → Hh → R (List Vl)} (h : PE X a (tF Γ W ef)) : PE X a (tE Γ W fun env h => bnd (ef env h) fun xs h => .ok (.ref h.length) (h ++ [.lst xs])) := by
  refine pe_imp h fun σ H Q hq => ?_
  obtain ⟨L, m, h, env, rh, re, k⟩ := hq
  exact ⟨L, m, h, env, rh, re, okF.th rh k⟩
theorem s_sub (C : Cn X Γ W) (ha : PE X a (tE Γ W ea)) (hb : PE X b (tE Γ W eb)) (hs : PlainIx b) :
    PE X (.Subscript a b pos) (tE Γ W fun env h => bnd (ea env h) fun x h => bnd (eb env h) fun y h => lift (subV h x y) h) := by
  refine pe_imp (pe_ix (ix_sub (Γ := Γ) C.K C.u1) ha hb hs) fun σ H Q hq => ?_
  obtain ⟨L, m, h, env, rh, re, k⟩ := hq
  refine ⟨L, m, h, env, rh, re, k.bind fun m1 H1 x h1 u g1 rh1 rx k1 => ⟨L, m1, h1, env, rh1, re.grow g1, k1.bind fun m2 H2 y h2 v g2 rh2 ry k2 => ?_⟩⟩
  obtain ⟨z, ez, kz⟩ := k2.lift
  exact ⟨L, m2, h2, x, y, z, rh2, rx.grow g2, ry, ez, kz⟩
theorem o_none : PO X none (tO' Γ W fun _ h => .ok none h) := by
  refine ⟨fun pins s σ H Q I hq => po_none.run pins s σ H Q I ?_⟩
  obtain ⟨L, m, h, env, rh, re, k⟩ := hq
  exact k.now (u := none) rh rfl
def partR (x : Vl) (h : Hh) : R (Option Int) := match x with
  | .int i => .ok (some i) h
  | _ => .bad
theorem o_some (ha : PE X a (tE Γ W ea)) : PO X (some a) (tO' Γ W fun env h => bnd (ea env h) partR) := by
  refine ⟨fun pins s σ H Q I hq => (po_some ha).run pins s σ H Q I ?_⟩
  obtain ⟨L, m, h, env, rh, re, k⟩ := hq
  refine ⟨L, m, h, env, rh, re, k.bind fun m1 H1 x h1 u g1 rh1 rx k1 => ?_⟩
  unfold partR at k1
  split at k1
  · rename_i i
    exact ⟨i, rx, k1.now (u := some i) rh1 rfl⟩
  · exact k1.elim
variable {lo hi : Option Expr} {eo eu : Env → Hh → R (Option Int)} {p2 : Pos}
theorem s_slc (C : Cn X Γ W) (ha : PE X a (tE Γ W ea)) (hl : PO X lo (tO' Γ W eo)) (hu : PO X hi (tO' Γ W eu)) :
    PE X (.Subscript a (.Slice lo hi none p2) pos) (tE Γ W fun env h => bnd (ea env h) fun x h => bnd (eo env h) fun l h => bnd (eu env h) fun u h => lift (cutW h x l u) h) := by
  refine pe_imp (pe_slice (sl_cut (Γ := Γ) C.K) ha hl hu) fun σ H Q hq => ?_
  obtain ⟨L, m, h, env, rh, re, k⟩ := hq
  refine ⟨L, m, h, env, rh, re, k.bind fun m1 H1 x h1 u g1 rh1 rx k1 => ⟨L, m1, h1, env, rh1, re.grow g1, k1.bind fun m2 H2 l h2 v g2 rh2 el k2 => ?_⟩⟩
  cases el
  refine ⟨L, m2, h2, env, rh2, (re.grow g1).grow g2, k2.bind fun m3 H3 l' h3 v' g3 rh3 el' k3 => ?_⟩
  cases el'
  obtain ⟨z, ez, kz⟩ := k3.lift
  exact ⟨L, m3, h3, x, z, rh3, (rx.grow g2).grow g3, ez, kz⟩
def cutR (x : Vl) (l u : Option Int) (h : Hh) : R (List Vl) := match lstOf h x with
  | some xs => .ok (cut xs l u) h
  | none => .bad
theorem f_slf (C : Cn X Γ W) (ha : PE X a (tE Γ W ea)) (hl : PO X lo (tO' Γ W eo)) (hu : PO X hi (tO' Γ W eu)) :
    PE X (.Subscript a (.Slice lo hi none p2) pos) (tF Γ W fun env h => bnd (ea env h) fun x h => bnd (eo env h) fun l h => bnd (eu env h) fun u h => cutR x l u h) := by
  refine pe_imp (pe_slice (sl_cutN (Γ := Γ)) ha hl hu) fun σ H Q hq => ?_
  obtain ⟨L, m, h, env, rh, re, k⟩ := hq
  refine ⟨L, m, h, env, rh, re, okF.bind rh k fun m1 H1 x h1 u g1 rh1 rx k1 => ⟨L, m1, h1, env, rh1, re.grow g1, okF.bind rh1 k1 fun m2 H2 l h2 v g2 rh2 el k2 => ?_⟩⟩
  cases el
  refine ⟨L, m2, h2, env, rh2, (re.grow g1).grow g2, okF.bind rh2 k2 fun m3 H3 l' h3 v' g3 rh3 el' k3 => ?_⟩
  cases el'
  unfold cutR at k3
  split at k3
  · rename_i xs hx
    exact ⟨L, m3, h3, x, xs, rh3, (rx.grow g2).grow g3, hx, k3⟩
  · exact k3.elim
end
end Mi
set_option Elab.async false
set_option linter.all false
set_option maxRecDepth 100000
set_option maxHeartbeats 4000000
namespace Mi
open PySem PySem.Spec PyProof.Rows L2
def spC (Γ : Gm) (cf : CF) (f : Nat) : Sp := fun vs H Q E => ∃ L m h args, RepH Γ L m h H ∧ RepL Γ L m H args vs ∧ okG Γ (fun c d _ H' => E c d H') L m H [] (fun m' H' => RepV Γ L m' H') (cf f args h) Q
structure FnI (Γ : Gm) (cf : CF) (k : Nat) (f : Nat) : Prop where
  kp : PySem.W.keepIn Γ.K (.ref (Γ.fa f)) = true
  ok : ∃ fd ps, FnOk Γ.P Γ.w Γ.K Γ.mg Γ.base (L2.CX Γ.P Γ.w) k (Γ.fa f) fd ps (spC Γ cf f) ∧ Binds Γ.K fd ps []
theorem okG.at {Γ : Gm} {W : WX} {L m : List Addr} {H : Hp} {σ : L2.St} {α β : Type} {rel : List Addr → Hp → α → β → Prop} {r : R α} {Q : β → Hp → Prop} (k : okG Γ W L m H σ rel r Q) : okG Γ (fun c d _ H' => WE W σ c d H') L m H [] rel r Q := by
  cases r with
  | ok a h => exact k
  | exc c p h => exact k
  | bad => exact k
def isStar : Expr → Bool
  | .Starred _ _ => true
  | _ => false
def noStars : List Expr → Bool
  | [] => true
  | e :: r => match isStar e with
    | true => false
    | false => noStars r
theorem star_cons {e : Expr} {es : List Expr} {env : PySem.Env} (h : isStar e = false) : starEach (e :: es) env = (false, eval e env) :: starEach es env := by
  cases e <;> first | rfl | (cases h)
theorem noStars_cons {e : Expr} {es : List Expr} (h : noStars (e :: es) = true) : isStar e = false ∧ noStars es = true := by
  unfold noStars at h
  split at h
  · cases h
  · rename_i q
    exact ⟨q, h⟩
theorem noStars_any {env : PySem.Env} {pos : Pos} : ∀ {es : List Expr}, noStars es = true → (backTo pos (starEach es env)).any (·.1) = false
  | [], _ => rfl
  | e :: es, h => by
    obtain ⟨h1, h2⟩ := noStars_cons h
    rw [star_cons h1]
    show (false || (backTo pos (starEach es env)).any (·.1)) = false
    rw [noStars_any h2]
    rfl
section
variable {X : Cx} {Γ : Gm} {W : WX} {cf : CF} {k : Nat} {f : Nat} {x : Str} {p pos : Pos} {e : Expr} {es : List Expr} {el : Env → Hh → R (List Vl)}
theorem run_c (C : Cn X Γ W) (F : FnI Γ cf k f) (hr : Room k X.A) {pins : List (Addr × Obj)} {σ : L2.St} {H : Hp} {s : Shared} {Q : VK} {us : List Value} {vs : List V} {L m : List Addr} {h : Hh} {args : List Vl} (I : Inv X pins σ H s) (r : Vals vs us)
    (rh : RepH Γ L m h H) (ra : RepL Γ L m H args vs) (kk : okG Γ W L m H σ (fun m' H' => RepV Γ L m' H') (cf f args h) Q) : wpAny (model X.prog X.w) X.A (call (.ref (Γ.fa f)) us) (EP X pins σ Q) X.xe s := by
  obtain ⟨fd, ps, F', hb⟩ := F.ok
  rw [← C.prog, ← C.w, ← C.K, ← C.mg, ← C.base] at F'
  rw [← C.K] at hb
  exact run_fnS F' hr hb (passAt C.tk σ) I r ⟨L, m, h, args, rh, ra, kk.at⟩
theorem s_call0 (C : Cn X Γ W) (F : FnI Γ cf k f) (hr : Room k X.A) (hg : Gl X x) (hm : Γ.mg x = some (.ref (Γ.fa f))) (hdb : (x == ("__debug__" : Str)) = false) :
    PE X (.Call (.Name x p) [] [] pos) (tE Γ W fun env h => cf f [] h) := by
  have hk := F.kp
  rw [← C.K] at hk
  rw [← C.mg] at hm
  refine ⟨fun pins s σ H Q I hq => ?_⟩
  obtain ⟨L, m, h, env, rh, re, kk⟩ := hq
  refine wpAny_Call_Name_kw (ld_glob I hg hm ?_ hdb)
  exact PySem.W.callWith_K0 I.kIn hk (run_c (us := []) (vs := []) (args := []) C F hr I .nil rh trivial kk)
theorem s_call (C : Cn X Γ W) (F : FnI Γ cf k f) (hr : Room k X.A) (hg : Gl X x) (hm : Γ.mg x = some (.ref (Γ.fa f))) (hdb : (x == ("__debug__" : Str)) = false) (ha : PA X (e :: es) (tL Γ W el)) (hst : noStars (e :: es) = true) :
    PE X (.Call (.Name x p) (e :: es) [] pos) (tE Γ W fun env h => bnd (el env h) fun xs h => cf f xs h) := by
  have hk := F.kp
  rw [← C.K] at hk
  rw [← C.mg] at hm
  obtain ⟨h1, h2⟩ := noStars_cons hst
  refine ⟨fun pins s σ H Q I hq => ?_⟩
  obtain ⟨L, m, h, env, rh, re, kk⟩ := hq
  refine wpAny_Call_Name_kw (ld_glob I hg hm ?_ hdb)
  refine PySem.W.callWith_K (h₀ := X.base) I.ok.mod.kin hk (thn (ha.run pos pins s σ H (fun vs H1 => ∃ L m h args, RepH Γ L m h H1 ∧ RepL Γ L m H1 args vs ∧ okG Γ W L m H1 σ (fun m' H' => RepV Γ L m' H') (cf f args h) Q) I ⟨L, m, h, env, rh, re, kk.bind fun m1 H1 xs h1 us g1 rh1 rx k1 => ⟨L, m1, h1, xs, rh1, rx, k1⟩⟩) fun us s1 ⟨vs, H1, I1, r, L', m', h', args, a1, a2, a3⟩ => ⟨I1.kIn, ?_⟩) (star_cons h1) (noStars_any h2)
  exact run_c C F hr I1 r a1 a2 a3
theorem s_callv {i : Nat} (C : Cn X Γ W) (F : ∀ f, FnI Γ cf k f) (hr : Room k X.A) (hN : X.N[i]? = some x) (hv : Vis X.env.scope x) (hdb : (x == ("__debug__" : Str)) = false) (hcd : (x == ("__classdict__" : Str)) = false) (ha : PA X (e :: es) (tL Γ W el)) (hst : noStars (e :: es) = true) :
    PE X (.Call (.Name x p) (e :: es) [] pos) (tE Γ W fun env h => match env[i]? with
      | some (some (.fn f)) => bnd (el env h) fun xs h => cf f xs h
      | _ => .bad) := by
  obtain ⟨h1, h2⟩ := noStars_cons hst
  refine ⟨fun pins s σ H Q I hq => ?_⟩
  obtain ⟨L, m, h, env, rh, re, kk⟩ := hq
  dsimp only at kk
  split at kk
  · rename_i f hf
    obtain ⟨u, e1, r⟩ := re.2 i _ hf
    refine wpAny_Call_Name_kw (thn ((pe_var (pos := p) hN hv hdb hcd).run pins s σ H (fun v H1 => v = .ref (Γ.fa f) ∧ H1 = H) I ⟨u, e1, r, rfl⟩) fun u s1 ⟨v, H1, I1, r1, q1⟩ => ?_)
    obtain ⟨rfl, rfl⟩ := q1
    cases r1
    have hk := (F f).kp
    rw [← C.K] at hk
    refine PySem.W.callWith_K (h₀ := X.base) I.ok.mod.kin hk (thn (ha.run pos pins s1 σ H1 (fun vs H1 => ∃ L m h args, RepH Γ L m h H1 ∧ RepL Γ L m H1 args vs ∧ okG Γ W L m H1 σ (fun m' H' => RepV Γ L m' H') (cf f args h) Q) I1 ⟨L, m, h, env, rh, re, kk.bind fun m1 H1 xs h1 us g1 rh1 rx k1 => ⟨L, m1, h1, xs, rh1, rx, k1⟩⟩) fun us s1 ⟨vs, H1, I1, r, L', m', h', args, a1, a2, a3⟩ => ⟨I1.kIn, ?_⟩) (star_cons h1) (noStars_any h2)
    exact run_c C (F f) hr I1 r a1 a2 a3
  · exact kk.elim
theorem s_callB {b : Bif} {id : String} (hc : CallR X (.builtin id) (rF Γ b)) (hg : Gl X x) (hm : X.mg x = none) (hv : bootBuiltins x = some (.builtin id)) (ha : PA X (e :: es) (tL Γ W el)) (hn : x ≠ "__name__") (hdb : (x == ("__debug__" : Str)) = false) (hst : noStars (e :: es) = true) :
    PE X (.Call (.Name x p) (e :: es) [] pos) (tE Γ W fun env h => bnd (el env h) fun xs h => lift (bifV b h xs) h) := by
  obtain ⟨h1, h2⟩ := noStars_cons hst
  refine pe_imp (pe_callB hc hg hm hv ha hn hdb (star_cons h1) (noStars_any h2)) fun σ H Q hq => ?_
  obtain ⟨L, m, h, env, rh, re, kk⟩ := hq
  refine ⟨L, m, h, env, rh, re, kk.bind fun m1 H1 xs h1 us g1 rh1 rx k1 => ?_⟩
  obtain ⟨z, ez, kz⟩ := k1.lift
  exact ⟨L, m1, h1, xs, z, rh1, rx, ez, kz⟩
theorem s_callT {b : Bif} {id : String} (hc : CallR X (.type id) (rF Γ b)) (hg : Gl X x) (hm : X.mg x = none) (hv : bootBuiltins x = some (.type id)) (ha : PA X (e :: es) (tL Γ W el)) (hn : x ≠ "__name__") (hdb : (x == ("__debug__" : Str)) = false) (hst : noStars (e :: es) = true) :
    PE X (.Call (.Name x p) (e :: es) [] pos) (tE Γ W fun env h => bnd (el env h) fun xs h => lift (bifV b h xs) h) := by
  obtain ⟨h1, h2⟩ := noStars_cons hst
  refine pe_imp (pe_callTy hc hg hm hv ha hn hdb (star_cons h1) (noStars_any h2)) fun σ H Q hq => ?_
  obtain ⟨L, m, h, env, rh, re, kk⟩ := hq
  refine ⟨L, m, h, env, rh, re, kk.bind fun m1 H1 xs h1 us g1 rh1 rx k1 => ?_⟩
  obtain ⟨z, ez, kz⟩ := k1.lift
  exact ⟨L, m1, h1, xs, z, rh1, rx, ez, kz⟩
def bifNm : Bif → String
  | .len => "len"
  | .abs => "abs"
  | .max2 => "max"
  | .min2 => "min"
  | .maxl => "max"
  | .minl => "min"
  | .int => "int"
  | .tuple => "tuple"
  | .sum => "sum"
  | .all => "all"
  | .any => "any"
  | _ => ""
theorem s_bif (C : Cn X Γ W) {b : Bif} (hg : Gl X (bifNm b)) (hb : bifNm b ≠ "") (hm : Γ.mg (bifNm b) = none) (ha : PA X (e :: es) (tL Γ W el)) (hst : noStars (e :: es) = true) :
    PE X (.Call (.Name (bifNm b) p) (e :: es) [] pos) (tE Γ W fun env h => bnd (el env h) fun xs h => lift (bifV b h xs) h) := by
  rw [← C.mg] at hm
  cases b with
  | len => exact s_callB (cb_len C.K) hg hm PySem.boot_len ha (by decide) (by decide) hst
  | abs => exact s_callB cb_abs hg hm PyProof.Rows.boot_abs ha (by decide) (by decide) hst
  | max2 => exact s_callB (cb_max2 C.calm) hg hm PyProof.Rows.boot_max ha (by decide) (by decide) hst
  | min2 => exact s_callB (cb_min2 C.calm) hg hm PyProof.Rows.boot_min ha (by decide) (by decide) hst
  | maxl => exact s_callB (cb_maxl C.calm) hg hm PyProof.Rows.boot_max ha (by decide) (by decide) hst
  | minl => exact s_callB (cb_minl C.calm) hg hm PyProof.Rows.boot_min ha (by decide) (by decide) hst
  | int => exact s_callT cb_int hg hm PyProof.Rows.boot_int ha (by decide) (by decide) hst
  | tuple => exact s_callT (cb_tuple C.K) hg hm PyProof.Rows.boot_tuple ha (by decide) (by decide) hst
  | sum => exact s_callB (cb_sum C.calm) hg hm PyProof.Rows.boot_sum ha (by decide) (by decide) hst
  | all => exact s_callB (cb_all C.calm) hg hm PyProof.Rows.boot_all ha (by decide) (by decide) hst
  | any => exact s_callB (cb_any C.calm) hg hm PyProof.Rows.boot_any ha (by decide) (by decide) hst
  | _ => exact absurd rfl hb
def listR (x : Vl) (h : Hh) : R (List Vl) := lift (seqOf h x) h
theorem f_list {ea : Env → Hh → R Vl} (C : Cn X Γ W) (hg : Gl X "list") (hm : Γ.mg "list" = none) (ha : PE X e (tE Γ W ea)) (hst : isStar e = false) :
    PE X (.Call (.Name "list" p) [e] [] pos) (tF Γ W fun env h => bnd (ea env h) listR) := by
  rw [← C.mg] at hm
  refine pe_imp (pe_callTy (cb_list (Γ := Γ) C.K) hg hm PyProof.Rows.boot_list (pa_cons ha pa_nil (star_cons hst)) (by decide) (by decide) (star_cons hst) rfl) fun σ H Q hq => ?_
  obtain ⟨L, m, h, env, rh, re, kk⟩ := hq
  refine ⟨L, m, h, env, rh, re, okF.bind rh kk fun m1 H1 x h1 u g1 rh1 rx k1 => ?_⟩
  obtain ⟨z, ez, kz⟩ := k1.lift
  exact ⟨L, m1, h1, x, u, z, rfl, rh1, rx, ez, kz⟩
def srtR (rev : Bool) (x : Vl) (h : Hh) : R (List Vl) := match lstOf h x with
  | some l => match intsOf l with
    | some l => match rev with
      | true => .ok ((sortI l).reverse.map .int) h
      | false => .ok ((sortI l).map .int) h
    | none => .bad
  | none => .bad
theorem f_sorted {ea : Env → Hh → R Vl} (C : Cn X Γ W) (hg : Gl X "sorted") (hm : Γ.mg "sorted" = none) (ha : PE X e (tE Γ W ea)) (hst : isStar e = false) :
    PE X (.Call (.Name "sorted" p) [e] [] pos) (tF Γ W fun env h => bnd (ea env h) (srtR false)) := by
  rw [← C.mg] at hm
  refine pe_imp (pe_callB (cb_sorted (Γ := Γ)) hg hm PyProof.Rows.boot_sorted (pa_cons ha pa_nil (star_cons hst)) (by decide) (by decide) (star_cons hst) rfl) fun σ H Q hq => ?_
  obtain ⟨L, m, h, env, rh, re, kk⟩ := hq
  refine ⟨L, m, h, env, rh, re, okF.bind rh kk fun m1 H1 x h1 u g1 rh1 rx k1 => ?_⟩
  unfold srtR at k1
  split at k1
  · rename_i l hl
    split at k1
    · rename_i l2 hl2
      exact ⟨L, m1, h1, x, u, l, l2, rfl, rh1, rx, hl, hl2, k1⟩
    · exact k1.elim
  · exact k1.elim
theorem f_sortedR {ea : Env → Hh → R Vl} {j : Nat} {p2 p3 : Pos} (C : Cn X Γ W) (hg : Gl X "sorted") (hm : Γ.mg "sorted" = none) (ha : PE X e (tE Γ W ea)) (hst : isStar e = false) :
    PE X (.Call (.Name "sorted" p) [e] [⟨some "reverse", .Constant (.bool true) j p2, p3⟩] pos) (tF Γ W fun env h => bnd (ea env h) (srtR true)) := by
  rw [← C.mg] at hm
  have hh : backTo pos (starEach [e] X.env) = (false, eval e X.env) :: backTo pos (starEach [] X.env) := by
    rw [star_cons hst]
    rfl
  refine pe_imp (pe_callBK (cb_sortedR (Γ := Γ)) hg hm PyProof.Rows.boot_sorted (pa_cons ha pa_nil (star_cons hst)) (pk_cons pe_bl pk_nil) (by decide) (by decide) hh (by rw [hh]; rfl)) fun σ H Q hq => ?_
  obtain ⟨L, m, h, env, rh, re, kk⟩ := hq
  refine ⟨L, m, h, env, rh, re, okF.bind rh kk fun m1 H1 x h1 u g1 rh1 rx k1 => ?_⟩
  unfold srtR at k1
  split at k1
  · rename_i l hl
    split at k1
    · rename_i l2 hl2
      exact ⟨L, m1, h1, x, u, l, l2, rfl, rfl, rh1, rx, hl, hl2, k1⟩
    · exact k1.elim
  · exact k1.elim
def plainBase : Expr → Bool
  | .Call (.Name id _) [] [] _ => !(id == ("super" : Str))
  | _ => true
theorem base_plain {o : Expr} {a : Str} {env : PySem.Env} {whole : Sem Value} (h : plainBase o = true) : attributeBase o a env whole = whole := by
  unfold attributeBase
  split
  · rename_i id p pos
    have hs : (id != ("super" : Str)) = true := by
      have h : (!(id == ("super" : Str))) = true := h
      exact h
    rw [hs]
    rfl
  · rfl
def mthNm : Mth → String
  | .append => "append"
  | .extend => "extend"
  | .pop0 => "pop"
  | .pop1 => "pop"
  | .bitlen => "bit_length"
theorem ref_list {L m : List Addr} {H : Hp} {h : Hh} {n : Nat} {xs : List Vl} {u : V} {K : PySem.W.Frag} (rh : RepH Γ L m h H) (r : RepV Γ L m H (.ref n) u) (e : h[n]? = some (.lst xs)) : tyV K "list" u H := by
  obtain ⟨p, rfl, q⟩ := r
  obtain ⟨us, e2, _⟩ := rh.at_ q e
  exact .inl ⟨rfl, us, SqL.of e2⟩
def mthR (t : Mth) (x : Vl) (h : Hh) (f : R (List Vl)) : R Vl := match rcv t h x with
  | true => bnd f fun xs h => mthV t h x xs
  | false => .bad
theorem rcv_list {t : Mth} {h : Hh} {x : Vl} (ht : t ≠ .bitlen) (e : rcv t h x = true) : ∃ n l, x = .ref n ∧ h[n]? = some (.lst l) := by
  unfold rcv at e
  split at e
  · exact absurd rfl ht
  · split at e
    · split at e
      · rename_i n _ l hl
        exact ⟨_, _, rfl, hl⟩
      · cases e
    · cases e
theorem okG.mth {t : Mth} {L m : List Addr} {H : Hp} {σ : L2.St} {h : Hh} {x : Vl} {xs : List Vl} {u : V} {us : List V} {Q : VK} (rh : RepH Γ L m h H) (rx : RepV Γ L m H x u) (rxs : RepL Γ L m H xs us) (k : okG Γ W L m H σ (fun m' H' => RepV Γ L m' H') (mthV t h x xs) Q)
    (hx : ∀ c p h1, mthV t h x xs ≠ .exc c p h1) : rM Γ t u us H Q := by
  cases e : mthV t h x xs with
  | ok v h1 =>
    rw [e] at k
    exact ⟨L, m, h, x, xs, v, h1, rh, rx, rxs, e, k⟩
  | exc c p h1 => exact absurd e (hx c p h1)
  | bad =>
    rw [e] at k
    exact k.elim
theorem mthV_noexc (t : Mth) (h : Hh) (x : Vl) (xs : List Vl) : ∀ c p h1, mthV t h x xs ≠ .exc c p h1 := by
  intro c p h1 e
  cases t <;> simp only [mthV, appendV, extendV, popV, popAtV, bitsV] at e <;> (repeat' split at e) <;> cases e
theorem s_mth1 {t : Mth} {id : String} {o : Expr} {eo : Env → Hh → R Vl} {apos : Pos} (ht : t ≠ .bitlen) (C : Cn X Γ W) (slot : Slot "list" (Str.ofString (mthNm t)) id) (hty : typeOf (.builtin id) = pure (.type "method_descriptor")) (hm : MtR X id (rM Γ t)) (ho : PE X o (tE Γ W eo)) (ha : PA X [e] (tL Γ W el))
    (hb : plainBase o = true) (hl : (apos.endLine == pos.line) = true) (hst : isStar e = false) : PE X (.Call (.Attribute o (mthNm t) apos) [e] [] pos) (tE Γ W fun env h => bnd (eo env h) fun x h => mthR t x h (el env h)) := by
  have hs : starEach [e] X.env = [(false, eval e X.env)] := star_cons hst
  refine pe_imp (pe_bm PySem.F.plainAttrs_list slot hty hm ho ha (base_plain hb) (by rw [hs]; rfl) hl hs rfl) fun σ H Q hq => ?_
  obtain ⟨L, m, h, env, rh, re, kk⟩ := hq
  refine ⟨L, m, h, env, rh, re, kk.bind fun m1 H1 x h1 u g1 rh1 rx k1 => ?_⟩
  unfold mthR at k1
  split at k1
  · rename_i hr
    obtain ⟨n, l, rfl, hn⟩ := rcv_list ht hr
    refine ⟨ref_list rh1 rx hn, L, m1, h1, env, rh1, re.grow g1, k1.bind fun m2 H2 xs h2 us g2 rh2 rxs k2 => ?_⟩
    exact okG.mth rh2 (rx.grow g2) rxs k2 (mthV_noexc _ _ _ _)
  · exact k1.elim
theorem s_mth0 {t : Mth} {id : String} {o : Expr} {eo : Env → Hh → R Vl} {apos : Pos} (ht : t ≠ .bitlen) (C : Cn X Γ W) (slot : Slot "list" (Str.ofString (mthNm t)) id) (hty : typeOf (.builtin id) = pure (.type "method_descriptor")) (hm : MtR X id (rM Γ t)) (ho : PE X o (tE Γ W eo))
    (hb : plainBase o = true) (hl : (apos.endLine == pos.line) = true) : PE X (.Call (.Attribute o (mthNm t) apos) [] [] pos) (tE Γ W fun env h => bnd (eo env h) fun x h => mthR t x h (.ok [] h)) := by
  refine pe_imp (pe_bm0 PySem.F.plainAttrs_list slot hty hm ho (base_plain hb) hl) fun σ H Q hq => ?_
  obtain ⟨L, m, h, env, rh, re, kk⟩ := hq
  refine ⟨L, m, h, env, rh, re, kk.bind fun m1 H1 x h1 u g1 rh1 rx k1 => ?_⟩
  unfold mthR at k1
  split at k1
  · rename_i hr
    obtain ⟨n, l, rfl, hn⟩ := rcv_list ht hr
    refine ⟨ref_list rh1 rx hn, ?_⟩
    exact okG.mth (xs := []) (us := []) rh1 rx trivial k1 (mthV_noexc _ _ _ _)
  · exact k1.elim
theorem s_bits {o : Expr} {eo : Env → Hh → R Vl} {apos : Pos} (ho : PE X o (tE Γ W eo)) (hb : plainBase o = true) (hl : (apos.endLine == pos.line) = true) :
    PE X (.Call (.Attribute o "bit_length" apos) [] [] pos) (tE Γ W fun env h => bnd (eo env h) fun x h => mthR .bitlen x h (.ok [] h)) := by
  refine pe_imp (pe_bits ho (base_plain hb) hl) fun σ H Q hq => ?_
  obtain ⟨L, m, h, env, rh, re, kk⟩ := hq
  refine ⟨L, m, h, env, rh, re, kk.bind fun m1 H1 x h1 u g1 rh1 rx k1 => ?_⟩
  replace k1 : okG Γ W L m1 H1 σ (fun m' H' => RepV Γ L m' H') (bitsV h1 x) Q := k1
  unfold bitsV at k1
  split at k1
  · rename_i i
    refine ⟨i, rx, ?_⟩
    have e : (Builtin.Int.intBits i : Nat) = if i = 0 then 0 else i.natAbs.log2 + 1 := by
      unfold Builtin.Int.intBits
      by_cases h : i = 0
      · rw [if_pos h, if_pos (by rw [h]; rfl)]
      · rw [if_neg h, if_neg (by simpa using h)]
    rw [e]
    refine k1.now rh1 ?_
    show V.int _ = V.int _
    congr 1
    split <;> rfl
  · exact k1.elim
theorem s_mth (C : Cn X Γ W) {o : Expr} {eo : Env → Hh → R Vl} {apos : Pos} {t : Mth} (ht : t = .append ∨ t = .extend ∨ t = .pop1) (ho : PE X o (tE Γ W eo)) (ha : PA X [e] (tL Γ W el)) (hb : plainBase o = true) (hl : (apos.endLine == pos.line) = true) (hst : isStar e = false) :
    PE X (.Call (.Attribute o (mthNm t) apos) [e] [] pos) (tE Γ W fun env h => bnd (eo env h) fun x h => mthR t x h (el env h)) := by
  rcases ht with rfl | rfl | rfl
  · exact s_mth1 (t := .append) (by simp) C PySem.F.slot_list_append PySem.F.type_list_append mb_append ho ha hb hl hst
  · exact s_mth1 (t := .extend) (by simp) C PySem.F.slot_list_extend PySem.F.type_list_extend mb_extend ho ha hb hl hst
  · exact s_mth1 (t := .pop1) (by simp) C PySem.F.slot_list_pop PySem.F.type_list_pop mb_pop1 ho ha hb hl hst
theorem s_pop (C : Cn X Γ W) {o : Expr} {eo : Env → Hh → R Vl} {apos : Pos} (ho : PE X o (tE Γ W eo)) (hb : plainBase o = true) (hl : (apos.endLine == pos.line) = true) :
    PE X (.Call (.Attribute o "pop" apos) [] [] pos) (tE Γ W fun env h => bnd (eo env h) fun x h => mthR .pop0 x h (.ok [] h)) :=
  s_mth0 (t := .pop0) (by simp) C PySem.F.slot_list_pop PySem.F.type_list_pop mb_pop0 ho hb hl
end
end Mi
set_option Elab.async false
set_option linter.all false
set_option maxRecDepth 100000
set_option maxHeartbeats 4000000
namespace Mi
open PySem PySem.Spec PyProof.Rows L2
def Rs (L : List Addr) (H : Hp) (L1 : List Addr) : Prop := L1 = L ∨ ∃ D, H D = none ∧ L1 = D :: L
theorem RepV.to1 {Γ : Gm} {L L1 m : List Addr} {H : Hp} {v : Vl} {u : V} (r : RepV Γ L m H v u) (e : Rs L H L1) : RepV Γ L1 m H v u := by
  rcases e with rfl | ⟨D, hD, rfl⟩
  · exact r
  · exact r.apart hD
def WkI (Γ : Gm) (L m : List Addr) (H : Hp) (xs : List Vl) (J : It) : Prop := ∃ G Y, Walk J xs.length G Y ∧ (∀ m1 H1, Grow m H m1 H1 → G H1) ∧
  ∀ L1, Rs L H L1 → ∀ (i : Nat) m1 h1 H1 x H1', i < xs.length → Grow m H m1 H1 → RepH Γ L1 m1 h1 H1 → Y i H1 x H1' → Grow m1 H1 m1 H1' ∧ RepH Γ L1 m1 h1 H1' ∧ ∃ vl, xs[i]? = some vl ∧ RepV Γ L1 m1 H1' vl x
def rWk (Γ : Gm) (L m : List Addr) (H : Hp) (w : Wk) (J : It) : Prop :=
  match w with
  | .its xs => WkI Γ L m H xs J
  | .live n => ∃ a, m[n]? = some a ∧ J = Itl Γ.K a
def tW (Γ : Gm) (W : WX) (ev : Env → Hh → R Wk) : TI := fun σ H R => ∃ L m h env, RepH Γ L m h H ∧ RepE Γ L m H env σ ∧ okG Γ W L m H σ (rWk Γ L) (ev env h) R
section
variable {Γ : Gm} {W : WX} {L m : List Addr} {H : Hp} {xs : List Vl} {us : List V} {a : Addr}
theorem wk_at {L1 m1 : List Addr} {h1 : Hh} {H1 H1' : Hp} {x : V} {i : Nat} (r : RepL Γ L m H xs us) (e : Rs L H L1) (hi : i < xs.length) (g : Grow m H m1 H1) (rh : RepH Γ L1 m1 h1 H1) (y : YAt us i H1 x H1') : Grow m1 H1 m1 H1' ∧ RepH Γ L1 m1 h1 H1' ∧ ∃ vl, xs[i]? = some vl ∧ RepV Γ L1 m1 H1' vl x := by
  obtain ⟨rfl, hx⟩ := y
  refine ⟨Grow.refl _ _, rh, xs[i], List.getElem?_eq_getElem hi, ?_⟩
  obtain ⟨u, h1, h2⟩ := r.get (List.getElem?_eq_getElem hi)
  rw [hx] at h1
  cases h1
  exact (h2.to1 e).grow g
theorem sqL_grow {m1 : List Addr} {H1 : Hp} (g : Grow m H m1 H1) (q : SqL Γ.K H a us) (n : a ∉ m) : SqL Γ.K H1 a us := by
  rcases q with (q | ⟨o, q⟩) | q
  · exact .inl (.inl (g.keep _ _ q n))
  · exact .inl (.inr ⟨o, g.frz _ _ _ q⟩)
  · exact .inr q
theorem wk_list (r : RepL Γ L m H xs us) (q : SqL Γ.K H a us) (n : (∃ o, H a = some (.frz o (.lst us))) ∨ a ∉ m) : WkI Γ L m H xs (Itl Γ.K a) := by
  refine ⟨fun H => SqL Γ.K H a us, YAt us, ?_, fun m1 H1 g => ?_, fun L1 e i m1 h1 H1 x H1' hi g rh y => wk_at r e hi g rh y⟩
  · rw [r.length]
    exact walk_list
  · rcases n with ⟨o, n⟩ | n
    · exact .inl (.inr ⟨o, g.frz _ _ _ n⟩)
    · exact sqL_grow g q n
theorem wk_tup (r : RepL Γ L m H xs us) (q : SqT Γ.K H a us) : WkI Γ L m H xs (Itt Γ.K a) := by
  refine ⟨fun H => SqT Γ.K H a us, YAt us, ?_, fun m1 H1 g => sqT_grow g q, fun L1 e i m1 h1 H1 x H1' hi g rh y => wk_at r e hi g rh y⟩
  rw [r.length]
  exact walk_tup
theorem scr_sq (rh : ∃ h, RepH Γ L m h H) (q : ScL Γ.K L m H a us) : SqL Γ.K H a us ∧ ∀ m1 H1, Grow m H m1 H1 → SqL Γ.K H1 a us := by
  rcases q with ⟨o, q⟩ | q
  · exact ⟨.inl (.inr ⟨o, q⟩), fun m1 H1 g => .inl (.inr ⟨o, g.frz _ _ _ q⟩)⟩
  · obtain ⟨o, its, n, q⟩ := q
    exact ⟨.inr ⟨o, its, n, q⟩, fun _ _ _ => .inr ⟨o, its, n, q⟩⟩
theorem wk_scr (rh : ∃ h, RepH Γ L m h H) (r : RepL Γ L m H xs us) (q : ScL Γ.K L m H a us) : WkI Γ L m H xs (Itl Γ.K a) := by
  refine ⟨fun H => SqL Γ.K H a us, YAt us, ?_, fun m1 H1 g => (scr_sq rh q).2 m1 H1 g, fun L1 e i m1 h1 H1 x H1' hi g rh y => wk_at r e hi g rh y⟩
  rw [r.length]
  exact walk_list
theorem rangeL_length : ∀ (n : Nat) (a c : Int), (rangeL n a c).length = n
  | 0, _, _ => rfl
  | n + 1, a, c => by
    show (rangeL n (a + c) c).length + 1 = n + 1
    rw [rangeL_length n]
theorem rangeL_get : ∀ (n : Nat) (a c : Int) (i : Nat), i < n → (rangeL n a c)[i]? = some (.int (a + i * c))
  | 0, _, _, _, h => by omega
  | n + 1, a, c, 0, _ => by
    show some (Vl.int a) = _
    simp
  | n + 1, a, c, i + 1, h => by
    show (rangeL n (a + c) c)[i]? = _
    rw [rangeL_get n (a + c) c i (by omega)]
    have : a + c + (i : Int) * c = a + ((i + 1 : Nat) : Int) * c := by
      rw [show (((i + 1 : Nat) : Int)) = (i : Int) + 1 from rfl, Int.add_mul, Int.one_mul]
      omega
    rw [this]
theorem wk_range {lo : Int} {n : Nat} : WkI Γ L m H (rangeL n lo 1) (Itr lo n) := by
  refine ⟨fun _ => True, YFn fun i => .int (lo + i), ?_, fun _ _ _ => trivial, fun L1 e i m1 h1 H1 x H1' hi g rh y => ?_⟩
  · rw [rangeL_length]
    exact walk_range
  · obtain ⟨rfl, rfl⟩ := y
    rw [rangeL_length] at hi
    refine ⟨Grow.refl _ _, rh, _, rangeL_get n lo 1 i hi, ?_⟩
    rw [Int.mul_one]
    rfl
theorem wk_rangeC {lo c : Int} {n : Nat} : WkI Γ L m H (rangeL n lo c) (Itc lo c n) := by
  refine ⟨fun _ => True, YFn fun i => .int (lo + (i : Nat) * c), ?_, fun _ _ _ => trivial, fun L1 e i m1 h1 H1 x H1' hi g rh y => ?_⟩
  · rw [rangeL_length]
    exact walk_rangeC
  · obtain ⟨rfl, rfl⟩ := y
    rw [rangeL_length] at hi
    exact ⟨Grow.refl _ _, rh, _, rangeL_get n lo c i hi, rfl⟩
theorem wk_pair {L1 m1 : List Addr} {h1 : Hh} {H1 H1' : Hp} {x : V} {i : Nat} {f g' : Nat → Option V} {p q : Vl} (rh : RepH Γ L1 m1 h1 H1) (y : YPair f g' i H1 x H1') (hf : ∀ u, f i = some u → RepV Γ L1 m1 H1 p u) (hg : ∀ u, g' i = some u → RepV Γ L1 m1 H1 q u) :
    Grow m1 H1 m1 H1' ∧ RepH Γ L1 m1 h1 H1' ∧ RepV Γ L1 m1 H1' (.tup [p, q]) x := by
  obtain ⟨T, u, w, rfl, hT, rfl, e1, e2⟩ := y
  have g := Grow.fresh (m := m1) (o := .tup [u, w]) hT
  exact ⟨g, rh.fresh hT, T, [u, w], rfl, SqT.of upd_same, (hf u e1).grow g, (hg w e2).grow g, trivial⟩
theorem wk_enum (r : RepL Γ L m H xs us) (q : ∀ m1 H1, Grow m H m1 H1 → SqL Γ.K H1 a us) : WkI Γ L m H (List.zipWith (fun i v => .tup [i, v]) (rangeL xs.length 0 1) xs) (Ite Γ.K a) := by
  have hl : (List.zipWith (fun i v => Vl.tup [i, v]) (rangeL xs.length 0 1) xs).length = us.length := by
    rw [List.length_zipWith, rangeL_length, Nat.min_self, r.length]
  refine ⟨fun H => SqL Γ.K H a us, YPair (fun i => some (.int (i : Nat))) (fun i => us[i]?), ?_, q, fun L1 e i m1 h1 H1 x H1' hi g rh y => ?_⟩
  · rw [hl]
    exact walk_enum
  · rw [hl] at hi
    have hi' : i < xs.length := by rw [r.length]; exact hi
    obtain ⟨u, e1, e2⟩ := r.get (List.getElem?_eq_getElem hi')
    obtain ⟨a1, a2, a3⟩ := wk_pair (p := .int i) (q := xs[i]) rh y (fun v ev => (Option.some.inj ev).symm) (fun v ev => by
      rw [e1] at ev
      cases ev
      exact (e2.to1 e).grow g)
    refine ⟨a1, a2, _, ?_, a3⟩
    rw [List.getElem?_zipWith, rangeL_get _ _ _ _ hi', List.getElem?_eq_getElem hi']
    simp
theorem wk_zip0 {ys : List Vl} {ws : List V} {J : It} {G : Hp → Prop} (r : RepL Γ L m H xs us) (r' : RepL Γ L m H ys ws) (w : Walk J (min us.length ws.length) G (YPair (fun i => us[i]?) (fun i => ws[i]?))) (q : ∀ m1 H1, Grow m H m1 H1 → G H1) :
    WkI Γ L m H (List.zipWith (fun u v => .tup [u, v]) xs ys) J := by
  have hl : (List.zipWith (fun u v => Vl.tup [u, v]) xs ys).length = min us.length ws.length := by
    rw [List.length_zipWith, r.length, r'.length]
  refine ⟨G, _, by rw [hl]; exact w, q, fun L1 e i m1 h1 H1 x H1' hi g rh y => ?_⟩
  rw [hl] at hi
  have hi1 : i < xs.length := by rw [r.length]; omega
  have hi2 : i < ys.length := by rw [r'.length]; omega
  obtain ⟨u, e1, e2⟩ := r.get (List.getElem?_eq_getElem hi1)
  obtain ⟨u', e1', e2'⟩ := r'.get (List.getElem?_eq_getElem hi2)
  obtain ⟨a1, a2, a3⟩ := wk_pair (p := xs[i]) (q := ys[i]) rh y (fun v ev => by
    rw [e1] at ev
    cases ev
    exact (e2.to1 e).grow g) (fun v ev => by
    rw [e1'] at ev
    cases ev
    exact (e2'.to1 e).grow g)
  refine ⟨a1, a2, _, ?_, a3⟩
  rw [List.getElem?_zipWith, List.getElem?_eq_getElem hi1, List.getElem?_eq_getElem hi2]
theorem walk_zipT {K : PySem.W.Frag} {a b : Addr} {xs ys : List V} : Walk (RZ.ItzT K a b) (min xs.length ys.length) (fun H => SqT K H a xs ∧ SqT K H b ys) (YPair (fun i => xs[i]?) (fun i => ys[i]?)) := by
  refine ⟨fun i _ hi q => ?_, fun _ q => ⟨xs, ys, q.1, q.2, by omega⟩, fun i H v H' _ q y => ?_⟩
  · have h1 : i < xs.length := by omega
    have h2 : i < ys.length := by omega
    exact ⟨xs, ys, xs[i], ys[i], q.1, q.2, by simp [h1], by simp [h2]⟩
  · obtain ⟨T, x, z, h1, h2, h3, h4, h5⟩ := y
    exact ⟨T, x, z, h1, h2, h3, h4 xs q.1, h5 ys q.2⟩
end
section
variable {X : Cx} {Γ : Gm} {W : WX} {tg e e2 e3 : Expr} {es : List Expr} {p pos : Pos} {ea eb : Env → Hh → R Vl} {el : Env → Hh → R (List Vl)}
theorem pi_seq {te : TE} (he : PE X e te) : PI X tg e (fun σ H R => te σ H fun x H1 => ∃ a, x = .ref a ∧ (((∃ xs, SqL X.K H1 a xs) ∧ R (Itl X.K a) H1) ∨ ((∃ xs, SqT X.K H1 a xs) ∧ R (Itt X.K a) H1))) := by
  refine ⟨fun pins s σ H R I h => ?_⟩
  refine thn (he.run pins s σ H _ I h) fun v s1 ⟨x, H1, I1, r1, q1⟩ => ?_
  obtain ⟨a, e, q⟩ := q1
  subst e
  cases r1
  rcases q with ⟨⟨xs, hq⟩, q⟩ | ⟨⟨xs, hq⟩, q⟩
  · obtain ⟨its, rv, p, hz⟩ := I1.list hq
    refine wpAny_pyIter_list p.isList ?_
    refine ⟨s1.heap.objs.size, [s1.heap.objs.size], _, _, H1, rfl, I1.kept (t' := s1.toks) fun b o e => Heap.get?_push_of_some _ e, turn_list a _, ⟨_, Heap.get?_push_size _ rfl, rfl, rfl⟩, fun b hb => ?_, q⟩
    have e : b = s1.heap.objs.size := by simpa using hb
    subst e
    exact I1.fpOk (Nat.le_refl _) (I1.hok.fresh (Nat.le_refl _))
  · obtain ⟨its, rv, p, hz⟩ := I1.tuple hq
    refine wpAny_pyIter_tuple (show s1.heap.IsTuple a its.toArray from p) ?_
    refine ⟨s1.heap.objs.size, [s1.heap.objs.size], _, _, H1, rfl, I1.kept (t' := s1.toks) fun b o e => Heap.get?_push_of_some _ e, turn_tuple a _, ⟨_, Heap.get?_push_size _ rfl, rfl, rfl⟩, fun b hb => ?_, q⟩
    have e : b = s1.heap.objs.size := by simpa using hb
    subst e
    exact I1.fpOk (Nat.le_refl _) (I1.hok.fresh (Nat.le_refl _))
def overR (x : Vl) (h : Hh) : R Wk := match x with
  | .tup xs => .ok (.its xs) h
  | .lst xs => .ok (.its xs) h
  | .scr xs => .ok (.its xs) h
  | .ref n => match h[n]? with
    | some (.lst _) => .ok (.live n) h
    | _ => .bad
  | _ => .bad
theorem w_over (C : Cn X Γ W) (he : PE X e (tE Γ W ea)) : PI X tg e (tW Γ W fun env h => bnd (ea env h) overR) := by
  refine pi_imp (pi_seq he) fun σ H R hq => ?_
  obtain ⟨L, m, h, env, rh, re, k⟩ := hq
  rw [C.K]
  refine ⟨L, m, h, env, rh, re, k.bind fun m1 H1 x h1 u g1 rh1 rx k1 => ?_⟩
  unfold overR at k1
  split at k1
  · obtain ⟨a, us, e, q, r⟩ := rx
    exact ⟨a, e, .inr ⟨⟨us, q⟩, k1.now rh1 (wk_tup r q)⟩⟩
  · obtain ⟨a, us, e, q, n, _, r⟩ := rx
    exact ⟨a, e, .inl ⟨⟨us, SqL.of q⟩, k1.now rh1 (wk_list r (SqL.of q) (.inr n))⟩⟩
  · obtain ⟨a, us, e, q, r⟩ := rx
    exact ⟨a, e, .inl ⟨⟨us, (scr_sq ⟨_, rh1⟩ q).1⟩, k1.now rh1 (wk_scr ⟨_, rh1⟩ r q)⟩⟩
  · rename_i n
    obtain ⟨a, e, q⟩ := rx
    split at k1
    · rename_i l hl
      obtain ⟨us, e2, rr⟩ := rh1.at_ q hl
      exact ⟨a, e, .inl ⟨⟨us, SqL.of e2⟩, k1.now rh1 ⟨a, q, rfl⟩⟩⟩
    · exact k1.elim
  · exact k1.elim
def r1R (xs : List Vl) (h : Hh) : R Wk := match xs with
  | [.int b] => match decide (b.natAbs < 1000000000) with
    | true => .ok (.its (rangeL b.toNat 0 1)) h
    | false => .bad
  | [.int a, .int b] => match decide (a.natAbs < 1000000000) with
    | true => match decide (b.natAbs < 1000000000) with
      | true => .ok (.its (rangeL (b - a).toNat a 1)) h
      | false => .bad
    | false => .bad
  | [.int a, .int b, .int c] => match rng3 a b c with
    | some n => .ok (.its (rangeL n a c)) h
    | none => .bad
  | _ => .bad
theorem w_range1 (C : Cn X Γ W) (hg : Gl X "range") (hm : Γ.mg "range" = none) (ha : PE X e (tE Γ W ea)) (hst : noStars [e] = true) :
    PI X tg (.Call (.Name "range" p) [e] [] pos) (tW Γ W fun env h => bnd (bnd (ea env h) fun x h => bnd (.ok [] h) fun xs h => .ok (x :: xs) h) r1R) := by
  rw [← C.mg] at hm
  obtain ⟨h1, h2⟩ := noStars_cons hst
  refine pi_imp (pi_range1 hg hm (pa_cons ha pa_nil (star_cons h1)) (star_cons h1)) fun σ H R hq => ?_
  obtain ⟨L, m, h, env, rh, re, k⟩ := hq
  dsimp only at k
  rw [bnd_bnd] at k
  refine ⟨L, m, h, env, rh, re, k.bind fun m1 H1 x h1 u g1 rh1 rx k1 => ?_⟩
  replace k1 : okG Γ W L m1 H1 σ (rWk Γ L) (r1R [x] h1) R := k1
  cases x with
  | int b =>
    cases (show u = .int b from rx)
    replace k1 : okG Γ W L m1 H1 σ (rWk Γ L) (match decide (b.natAbs < 1000000000) with
      | true => .ok (.its (rangeL b.toNat 0 1)) h1
      | false => .bad) R := k1
    split at k1
    · rename_i hb
      have hb := of_decide_eq_true hb
      exact ⟨b, rfl, by omega, by omega, k1.now rh1 wk_range⟩
    · exact k1.elim
  | _ => exact (show False from k1).elim
theorem w_range2 (C : Cn X Γ W) (hg : Gl X "range") (hm : Γ.mg "range" = none) (ha : PE X e (tE Γ W ea)) (hb : PE X e2 (tE Γ W eb)) (hst : noStars [e, e2] = true) :
    PI X tg (.Call (.Name "range" p) [e, e2] [] pos) (tW Γ W fun env h => bnd (bnd (ea env h) fun x h => bnd (bnd (eb env h) fun x h => bnd (.ok [] h) fun xs h => .ok (x :: xs) h) fun xs h => .ok (x :: xs) h) r1R) := by
  rw [← C.mg] at hm
  obtain ⟨h1, h2⟩ := noStars_cons hst
  obtain ⟨h3, h4⟩ := noStars_cons h2
  have hs : starEach [e, e2] X.env = [(false, eval e X.env), (false, eval e2 X.env)] := by rw [star_cons h1, star_cons h3]; rfl
  refine pi_imp (pi_range2 hg hm (pa_cons ha (pa_cons hb pa_nil (star_cons h3)) (star_cons h1)) hs (star_cons h3)) fun σ H R hq => ?_
  obtain ⟨L, m, h, env, rh, re, k⟩ := hq
  dsimp only at k
  rw [bnd_bnd] at k
  refine ⟨L, m, h, env, rh, re, k.bind fun m1 H1 x h1 u g1 rh1 rx k1 => ?_⟩
  rw [bnd_bnd, bnd_bnd] at k1
  refine ⟨L, m1, h1, env, rh1, re.grow g1, k1.bind fun m2 H2 y h2 v g2 rh2 ry k2 => ?_⟩
  replace k2 : okG Γ W L m2 H2 σ (rWk Γ L) (r1R [x, y] h2) R := k2
  unfold r1R at k2
  split at k2
  · rename_i z
    cases z
  · rename_i a b z
    cases z
    cases (show u = .int _ from rx)
    cases (show v = .int _ from ry)
    split at k2
    · rename_i ha
      have ha := of_decide_eq_true ha
      split at k2
      · rename_i hb
        have hb := of_decide_eq_true hb
        exact ⟨_, _, rfl, ⟨by omega, by omega, by omega, by omega⟩, k2.now rh2 wk_range⟩
      · exact k2.elim
    · exact k2.elim
  · rename_i z
    cases z
  · exact k2.elim
theorem rng3_some {a b c : Int} {n : Nat} (e : rng3 a b c = some n) : RgC a b c n := by
  unfold rng3 at e
  split at e
  · rename_i h
    cases Option.some.inj e
    simp only [Bool.and_eq_true, decide_eq_true_eq] at h
    exact ⟨h.1.1, h.1.2, h.2, PyProof.Rows.rangeSize_toNat a b c⟩
  · cases e
theorem w_range3 {ec : Env → Hh → R Vl} (C : Cn X Γ W) (hg : Gl X "range") (hm : Γ.mg "range" = none) (ha : PE X e (tE Γ W ea)) (hb : PE X e2 (tE Γ W eb)) (hc : PE X e3 (tE Γ W ec)) (hst : noStars [e, e2, e3] = true) :
    PI X tg (.Call (.Name "range" p) [e, e2, e3] [] pos) (tW Γ W fun env h => bnd (bnd (ea env h) fun x h => bnd (bnd (eb env h) fun x h => bnd (bnd (ec env h) fun x h => bnd (.ok [] h) fun xs h => .ok (x :: xs) h) fun xs h => .ok (x :: xs) h) fun xs h => .ok (x :: xs) h) r1R) := by
  rw [← C.mg] at hm
  obtain ⟨h1, h2⟩ := noStars_cons hst
  obtain ⟨h3, h4⟩ := noStars_cons h2
  obtain ⟨h5, h6⟩ := noStars_cons h4
  refine pi_imp (pi_range3 hg hm (pa_cons ha (pa_cons hb (pa_cons hc pa_nil (star_cons h5)) (star_cons h3)) (star_cons h1)) (star_cons h1) (noStars_any h2)) fun σ H R hq => ?_
  obtain ⟨L, m, h, env, rh, re, k⟩ := hq
  dsimp only at k
  rw [bnd_bnd] at k
  refine ⟨L, m, h, env, rh, re, k.bind fun m1 H1 x h1 u g1 rh1 rx k1 => ?_⟩
  rw [bnd_bnd, bnd_bnd] at k1
  refine ⟨L, m1, h1, env, rh1, re.grow g1, k1.bind fun m2 H2 y h2 v g2 rh2 ry k2 => ?_⟩
  rw [bnd_bnd, bnd_bnd] at k2
  refine ⟨L, m2, h2, env, rh2, (re.grow g1).grow g2, k2.bind fun m3 H3 z h3 w g3 rh3 rz k3 => ?_⟩
  replace k3 : okG Γ W L m3 H3 σ (rWk Γ L) (r1R [x, y, z] h3) R := k3
  unfold r1R at k3
  split at k3
  · rename_i z
    cases z
  · rename_i z
    cases z
  · rename_i z
    cases z
    cases (show u = .int _ from rx)
    cases (show v = .int _ from ry)
    cases (show w = .int _ from rz)
    split at k3
    · rename_i n hn
      exact ⟨_, _, _, n, rfl, rng3_some hn, k3.now rh3 wk_rangeC⟩
    · exact k3.elim
  · exact k3.elim
def enumR (x : Vl) (h : Hh) : R Wk := match frq x with
  | some (_, xs) => .ok (.its (List.zipWith (fun i v => .tup [i, v]) (rangeL xs.length 0 1) xs)) h
  | none => .bad
def enumL (x : Vl) (h : Hh) : R Wk := match frq x with
  | some (false, xs) => .ok (.its (List.zipWith (fun i v => .tup [i, v]) (rangeL xs.length 0 1) xs)) h
  | _ => .bad
theorem frq_list {L m : List Addr} {H : Hp} {h : Hh} {x : Vl} {u : V} {xs : List Vl} (rh : RepH Γ L m h H) (r : RepV Γ L m H x u) (e : frq x = some (false, xs)) : ∃ a us, u = .ref a ∧ SqL Γ.K H a us ∧ RepL Γ L m H xs us ∧ ∀ m1 H1, Grow m H m1 H1 → SqL Γ.K H1 a us := by
  unfold frq at e
  split at e
  · cases e
  · cases Option.some.inj e
    obtain ⟨a, us, e, q, n, _, r⟩ := r
    exact ⟨a, us, e, SqL.of q, r, fun m1 H1 g => sqL_grow g (SqL.of q) n⟩
  · cases Option.some.inj e
    obtain ⟨a, us, e, q, r⟩ := r
    exact ⟨a, us, e, (scr_sq ⟨_, rh⟩ q).1, r, (scr_sq ⟨_, rh⟩ q).2⟩
  · cases e
theorem frq_tup {L m : List Addr} {H : Hp} {x : Vl} {u : V} {xs : List Vl} (r : RepV Γ L m H x u) (e : frq x = some (true, xs)) : ∃ a us, u = .ref a ∧ SqT Γ.K H a us ∧ RepL Γ L m H xs us := by
  unfold frq at e
  split at e
  · cases Option.some.inj e
    obtain ⟨a, us, e, q, r⟩ := r
    exact ⟨a, us, e, q, r⟩
  · cases e
  · cases e
  · cases e
theorem w_enumL {elts : List Expr} {kk : Nat} {tpos : Pos} (C : Cn X Γ W) (hg : Gl X "enumerate") (hm : Γ.mg "enumerate" = none) (ha : PE X e (tE Γ W ea)) (hst : noStars [e] = true) :
    PI X (.Tuple elts kk tpos) (.Call (.Name "enumerate" p) [e] [] pos) (tW Γ W fun env h => bnd (ea env h) enumL) := by
  rw [← C.mg] at hm
  obtain ⟨h1, h2⟩ := noStars_cons hst
  refine pi_imp (pi_enum hg hm (pa_cons ha pa_nil (star_cons h1)) (star_cons h1)) fun σ H R hq => ?_
  obtain ⟨L, m, h, env, rh, re, k⟩ := hq
  rw [C.K]
  refine ⟨L, m, h, env, rh, re, k.bind fun m1 H1 x h1 u g1 rh1 rx k1 => ?_⟩
  unfold enumL at k1
  split at k1
  · rename_i xs hx
    obtain ⟨a, us, rfl, q, r, st⟩ := frq_list rh1 rx hx
    exact ⟨a, us, rfl, q, k1.now rh1 (wk_enum r st)⟩
  · exact k1.elim
def zipR (x y : Vl) (h : Hh) : R Wk := match frq x with
  | some (k, xs) => match frq y with
    | some (j, ys) => match k == j with
      | true => .ok (.its (List.zipWith (fun u v => .tup [u, v]) xs ys)) h
      | false => .bad
    | none => .bad
  | none => .bad
theorem w_zip {elts : List Expr} {kk : Nat} {tpos : Pos} (C : Cn X Γ W) (hg : Gl X "zip") (hm : Γ.mg "zip" = none) (ha : PE X e (tE Γ W ea)) (hb : PE X e2 (tE Γ W eb)) (hst : noStars [e, e2] = true) :
    PI X (.Tuple elts kk tpos) (.Call (.Name "zip" p) [e, e2] [] pos) (tW Γ W fun env h => bnd (ea env h) fun x h => bnd (eb env h) fun y h => zipR x y h) := by
  rw [← C.mg] at hm
  obtain ⟨h1, h2⟩ := noStars_cons hst
  obtain ⟨h3, h4⟩ := noStars_cons h2
  refine pi_imp (RZ.pi_zipA hg hm (pa_cons ha (pa_cons hb pa_nil (star_cons h3)) (star_cons h1)) (star_cons h1) (noStars_any h2)) fun σ H R hq => ?_
  obtain ⟨L, m, h, env, rh, re, k⟩ := hq
  rw [C.K]
  refine ⟨L, m, h, env, rh, re, k.bind fun m1 H1 x h1 u g1 rh1 rx k1 => ⟨L, m1, h1, env, rh1, re.grow g1, k1.bind fun m2 H2 y h2 v g2 rh2 ry k2 => ?_⟩⟩
  have rx := RepV.grow g2 rx
  unfold zipR at k2
  split at k2
  · rename_i k xs hx
    split at k2
    · rename_i j ys hy
      split at k2
      · rename_i hk
        cases k with
        | false =>
          cases j with
          | true => cases hk
          | false =>
            obtain ⟨a, us, rfl, q, r, st⟩ := frq_list rh2 rx hx
            obtain ⟨b, ws, rfl, q', r', st'⟩ := frq_list rh2 ry hy
            exact ⟨a, b, us, ws, rfl, .inl ⟨q, q', k2.now rh2 (wk_zip0 r r' (walk_zip rfl) fun m1 H1 g => ⟨st m1 H1 g, st' m1 H1 g⟩)⟩⟩
        | true =>
          cases j with
          | false => cases hk
          | true =>
            obtain ⟨a, us, rfl, q, r⟩ := frq_tup rx hx
            obtain ⟨b, ws, rfl, q', r'⟩ := frq_tup ry hy
            exact ⟨a, b, us, ws, rfl, .inr ⟨q, q', k2.now rh2 (wk_zip0 r r' walk_zipT fun m1 H1 g => ⟨sqT_grow g q, sqT_grow g q'⟩)⟩⟩
      · exact k2.elim
    · exact k2.elim
  · exact k2.elim
end
end Mi
set_option Elab.async false
set_option linter.all false
set_option maxRecDepth 100000
set_option maxHeartbeats 4000000
namespace Mi
open PySem PySem.Spec PyProof.Rows L2
section
variable {Γ : Gm} {L m : List Addr} {H : Hp} {env : Env} {σ : L2.St}
theorem RepE.put {v : Vl} {u : V} (r : RepE Γ L m H env σ) (rv : RepV Γ L m H v u) (i : Nat) : RepE Γ L m H (putE env i v) (σ.set i (some u)) := by
  refine ⟨by unfold putE; rw [List.length_set, List.length_set]; exact r.1, fun j w e => ?_⟩
  unfold putE at e
  by_cases hj : i = j
  · subst hj
    by_cases hl : i < env.length
    · rw [List.getElem?_set_self hl] at e
      cases e
      exact ⟨u, by rw [List.getElem?_set_self (by rw [← r.1]; exact hl)], rv⟩
    · rw [List.getElem?_eq_none (by rw [List.length_set]; omega)] at e
      cases e
  · rw [List.getElem?_set_ne hj] at e
    obtain ⟨w', h1, h2⟩ := r.2 j w e
    exact ⟨w', by rw [List.getElem?_set_ne hj]; exact h1, h2⟩
theorem RepE.wipe (r : RepE Γ L m H env σ) (vs : List Nat) : RepE Γ L m H (wipeE env vs) (L2.wipe σ vs) := by
  induction vs with
  | nil => exact r
  | cons v vs ih =>
    refine ⟨?_, fun j w e => ?_⟩
    · show ((wipeE env vs).set v none).length = ((L2.wipe σ vs).set v none).length
      rw [List.length_set, List.length_set]
      exact ih.1
    · have e : ((wipeE env vs).set v none)[j]? = some (some w) := e
      show ∃ u, ((L2.wipe σ vs).set v none)[j]? = some (some u) ∧ _
      by_cases hj : v = j
      · subst hj
        by_cases hl : v < (wipeE env vs).length
        · rw [List.getElem?_set_self hl] at e
          cases e
        · rw [List.getElem?_eq_none (by rw [List.length_set]; omega)] at e
          cases e
      · rw [List.getElem?_set_ne hj] at e ⊢
        exact ih.2 j w e
theorem RepE.apart {D : Addr} (r : RepE Γ L m H env σ) (hD : H D = none) : RepE Γ (D :: L) m H env σ := ⟨r.1, fun i v e => let ⟨u, h1, h2⟩ := r.2 i v e; ⟨u, h1, h2.apart hD⟩⟩
end
theorem wipe_none {σ : L2.St} {i : Nat} : ∀ {vs : List Nat}, i ∈ vs → (wipe σ vs)[i]? = none ∨ (wipe σ vs)[i]? = some none
  | v :: vs, h => by
    show ((wipe σ vs).set v none)[i]? = none ∨ ((wipe σ vs).set v none)[i]? = some none
    by_cases hv : v = i
    · subst hv
      by_cases hl : v < (wipe σ vs).length
      · exact .inr (List.getElem?_set_self hl)
      · exact .inl (List.getElem?_eq_none (by rw [List.length_set]; omega))
    · rw [List.getElem?_set_ne hv]
      exact wipe_none ((List.mem_cons.mp h).resolve_left fun z => hv z.symm)
theorem wipe_eq {σ τ : L2.St} {vs : List Nat} (hl : σ.length = τ.length) (h : ∀ i, i ∉ vs → σ[i]? = τ[i]?) : wipe σ vs = wipe τ vs := by
  apply List.ext_getElem?
  intro i
  by_cases hi : i ∈ vs
  · have l1 := wipe_length σ vs
    have l2 := wipe_length τ vs
    rcases wipe_none (σ := σ) hi with a | a <;> rcases wipe_none (σ := τ) hi with b | b
    · rw [a, b]
    · have := (List.getElem?_eq_some_iff.mp b).1
      rw [List.getElem?_eq_none_iff] at a
      omega
    · have := (List.getElem?_eq_some_iff.mp a).1
      rw [List.getElem?_eq_none_iff] at b
      omega
    · rw [a, b]
  · rw [wipe_out hi, wipe_out hi]
    exact h i hi
theorem wipe_wipe (σ : L2.St) (vs : List Nat) : wipe (wipe σ vs) vs = wipe σ vs := wipe_eq (wipe_length σ vs) fun i hi => wipe_out hi
def slots : Tg → List Nat
  | .n i => [i]
  | .t is => is
def TgOk (X : Cx) (Γ : Gm) (tg : Tg) (target : Expr) (g : TG) : Prop := PG X target g ∧ ∀ (L m : List Addr) (h : Hh) (H : Hp) (env env' : Env) (σ : L2.St) (x : Vl) (v : V) (Q : L2.St → Hp → Prop), RepH Γ L m h H → RepE Γ L m H env σ → RepV Γ L m H x v → tgV tg x env = some env' →
  (∀ σ', RepE Γ L m H env' σ' → σ'.length = σ.length → (∀ i, i ∉ slots tg → σ'[i]? = σ[i]?) → Q σ' H) → g v σ H Q
section
variable {X : Cx} {Γ : Gm} {W : WX}
theorem tg_name {i : Nat} {x : Str} {pos : Pos} (hN : X.N.Nodup) (hi : X.N[i]? = some x) (hx : Loc X.env.scope x) (hf : X.fn x = true ∨ X.env.scope.names.lookup x = some .local) : TgOk X Γ (.n i) (.Name x pos) (gName i) := by
  refine ⟨pg_name hN hi hx hf, fun L m h H env env' σ v u Q rh re rv e k => ?_⟩
  cases Option.some.inj e
  exact k _ (re.put rv i) (List.length_set ..) fun j hj => List.getElem?_set_ne fun z => hj (List.mem_singleton.mpr z.symm)
def TgsOk (X : Cx) (Γ : Gm) (is : List Nat) (ts : List Expr) (g : TGs) : Prop := PGs X ts g ∧ ∀ (L m : List Addr) (h : Hh) (H : Hp) (env env' : Env) (σ : L2.St) (xs : List Vl) (vs : List V) (Q : L2.St → Hp → Prop), RepH Γ L m h H → RepE Γ L m H env σ → RepL Γ L m H xs vs → putEs env is xs = some env' →
  (∀ σ', RepE Γ L m H env' σ' → σ'.length = σ.length → (∀ i, i ∉ is → σ'[i]? = σ[i]?) → Q σ' H) → g vs σ H Q
theorem tgs_nil : TgsOk X Γ [] [] gNil := by
  refine ⟨pgs_nil, fun L m h H env env' σ xs vs Q rh re rv e k => ?_⟩
  cases xs with
  | nil =>
    cases Option.some.inj e
    exact ⟨rep0 rv, k σ re rfl fun _ _ => rfl⟩
  | cons _ _ => cases e
theorem tgs_cons {i : Nat} {is : List Nat} {t : Expr} {ts : List Expr} {g : TG} {gs : TGs} (h1 : TgOk X Γ (.n i) t g) (h2 : TgsOk X Γ is ts gs) (hs : ∀ v σ H (Q Q' : L2.St → Hp → Prop), g v σ H Q → (∀ σ' H', Q σ' H' → Q' σ' H') → g v σ H Q') (hst : isStar t = false) : TgsOk X Γ (i :: is) (t :: ts) (gCons g gs) := by
  refine ⟨pgs_cons h1.1 h2.1 (by cases t <;> first | rfl | cases hst), fun L m h H env env' σ xs vs Q rh re rv e k => ?_⟩
  cases xs with
  | nil => cases e
  | cons x xs =>
    cases vs with
    | nil => exact rv.elim
    | cons v vs =>
      have e : putEs (putE env i x) is xs = some env' := e
      refine ⟨v, vs, rfl, h1.2 L m h H env _ σ x v _ rh re rv.1 rfl fun σ1 re1 l1 f1 => ?_⟩
      refine h2.2 L m h H _ env' σ1 xs vs Q rh re1 rv.2 e fun σ2 re2 l2 f2 => k σ2 re2 (l2.trans l1) fun j hj => ?_
      rw [f2 j fun z => hj (List.mem_cons_of_mem _ z)]
      exact f1 j fun z => hj (List.mem_cons.mpr (.inl (List.mem_singleton.mp z)))
theorem assign_plain {env : PySem.Env} : ∀ {ts : List Expr}, noStars ts = true → (assignEach ts env).length = ts.length ∧ ∀ p ∈ assignEach ts env, p.1 = false
  | [], _ => ⟨rfl, fun _ h => nomatch h⟩
  | t :: ts, h => by
    obtain ⟨h1, h2⟩ := noStars_cons h
    obtain ⟨a, b⟩ := assign_plain (env := env) h2
    have e : assignEach (t :: ts) env = (false, assign t env) :: assignEach ts env := by cases t <;> first | rfl | cases h1
    rw [e]
    exact ⟨congrArg (· + 1) a, fun p hp => (List.mem_cons.mp hp).elim (fun z => by rw [z]) (b p)⟩
theorem assign_find {env : PySem.Env} {ts : List Expr} (h : noStars ts = true) : (assignEach ts env).findIdx? (·.1) = none := by
  rw [List.findIdx?_eq_none_iff]
  intro p hp
  exact (assign_plain h).2 p hp
theorem putEs_len : ∀ {env env' : Env} {is : List Nat} {xs : List Vl}, putEs env is xs = some env' → xs.length = is.length
  | _, _, [], [], _ => rfl
  | env, _, i :: is, x :: xs, e => congrArg (· + 1) (putEs_len (env := putE env i x) (is := is) (xs := xs) e)
  | _, _, [], _ :: _, e => by cases e
  | _, _, _ :: _, [], e => by cases e
theorem tg_tup {is : List Nat} {ts : List Expr} {gs : TGs} {k : Nat} {pos : Pos} (C : Cn X Γ W) (h : TgsOk X Γ is ts gs) (hl : ts.length = is.length) (hst : noStars ts = true) : TgOk X Γ (.t is) (.Tuple ts k pos) (gTup X.K is.length gs) := by
  refine ⟨pg_tup C.calm h.1 ((assign_plain hst).1.trans hl) (assign_find hst), fun L m h' H env env' σ x v Q rh re rv e kk => ?_⟩
  unfold tgV at e
  dsimp only at e
  split at e
  · rename_i xs
    obtain ⟨a, us, rfl, q, r⟩ := rv
    rw [C.K]
    refine ⟨a, us, rfl, q, ?_, h.2 L m h' H env env' σ xs us Q rh re r e kk⟩
    rw [← r.length]
    exact putEs_len e
  · cases e
theorem Grow.updD {m m1 : List Addr} {H H1 : Hp} {D : Addr} {o : HO} (hD : H D = none) (g : Grow m H m1 H1) : Grow m H m1 (upd H1 D o) :=
  ⟨g.ext, fun a u e n => by rw [upd_ne (ne_of_none e hD)]; exact g.keep a u e n, fun a u e => by rw [upd_ne (ne_of_none e hD)]; exact g.tup a u e, fun a u v e => by rw [upd_ne (ne_of_none e hD)]; exact g.frz a u v e, fun a u e => by rw [upd_ne (ne_of_none e hD)]; exact g.own a u e⟩
theorem RepH.chg {Γ : Gm} {L m : List Addr} {H : Hp} {h : Hh} {D : Addr} {us us' : List V} (r : RepH Γ (D :: L) m h H) (e : H D = some (.lst us)) : RepH Γ (D :: L) m h (upd H D (.lst us')) where
  len := r.len
  nd := r.nd
  ap := r.ap
  ob := fun i a o e1 e2 => by
    have c := Chg.upd (us' := us') e
    have na : a ≠ D := fun z => r.ap a (List.mem_of_getElem? e1) (by rw [z]; exact List.mem_cons_self)
    exact (r.ob i a o e1 e2).map (fun _ _ => RepV.chg c) (fun _ _ => RepL.chg c) (upd_ne na) fun C dx vs s n1 n2 => ⟨slAt_chg c s, n1, n2⟩
  res := fun a ha => by
    by_cases z : a = D
    · exact ⟨us', by rw [z, upd_same]⟩
    · obtain ⟨ws, q⟩ := r.res a ha
      exact ⟨ws, by rw [upd_ne z]; exact q⟩
abbrev W0 : WX := fun _ _ _ _ => False
def CSt (Γ : Gm) (W : WX) (L : List Addr) (D : Addr) (m1 : List Addr) (H1 : Hp) (σ : L2.St) (Q : VK) (K : List Vl → Hh → R (List Vl)) (H' : Hp) : Prop :=
  ∃ m2 h2 acc us, Grow m1 H1 m2 H' ∧ RepH Γ (D :: L) m2 h2 H' ∧ D ∉ m2 ∧ H' D = some (.lst us) ∧ RepL Γ (D :: L) m2 H' acc us ∧ okF Γ W L m1 H1 σ (K acc h2) Q
def stepR (turn : Vl → Hh → R (Option Vl)) (K : List Vl → Hh → R (List Vl)) (x : Vl) (acc : List Vl) (h : Hh) : R (List Vl) := bnd (noX (turn x h)) fun o h1 => match o with
  | some y => if acc.length < line then K (acc ++ [y]) h1 else .bad
  | none => K acc h1
def turnR (tg : Tg) (own : List Nat) (env : Env) (ec : Env → Hh → R Bool) (ee : Env → Hh → R Vl) (x : Vl) (h : Hh) : R (Option Vl) := match tgV tg x (wipeE env own) with
  | some env' => bnd (ec env' h) fun b h => match b with
    | true => bnd (ee env' h) fun y h => .ok (some y) h
    | false => .ok none h
  | none => .bad
theorem comp_step {tg : Tg} {target : Expr} {X' : Cx} {g : TG} {own : List Nat} {env : Env} {ec : Env → Hh → R Bool} {ee : Env → Hh → R Vl} {L m1 m2 : List Addr} {D : Addr} {H1 H' H'' : Hp} {σ : L2.St} {Q : VK} {K : List Vl → Hh → R (List Vl)} {h1 h2 : Hh} {acc : List Vl} {us : List V} {x : V} {vl : Vl} {Nx : Hp → Prop}
    (hg : TgOk X' Γ tg target g) (ho : ∀ i ∈ slots tg, i ∈ own) (hD : H1 D = none) (rh1 : RepH Γ L m1 h1 H1) (re : RepE Γ L m1 H1 env σ) (g1 : Grow m1 H1 m2 H') (nD : D ∉ m2) (eD : H' D = some (.lst us)) (ra : RepL Γ (D :: L) m2 H' acc us) (rh' : RepH Γ (D :: L) m2 h2 H')
    (g2 : Grow m2 H' m2 H'') (rh : RepH Γ (D :: L) m2 h2 H'') (rx : RepV Γ (D :: L) m2 H'' vl x) (k : okF Γ W L m1 H1 σ (stepR (turnR tg own env ec ee) K vl acc h2) Q) (hn : ∀ H3, CSt Γ W L D m1 H1 σ Q K H3 → Nx H3) :
    g x (wipe σ own) H'' fun σ2 H2 => wipe σ2 own = wipe σ own ∧ tB' Γ W0 ec σ2 H2 fun b H3 => if b = true then tE Γ W0 ee σ2 H3 fun y H4 => ∃ acc, H4 D = some (.lst acc) ∧ acc.length < sizeLine ∧ Nx (upd H4 D (.lst (acc ++ [y]))) else Nx H3 := by
  have gw : Grow m1 H1 m2 H'' := g1.tr rh' g2
  have re2 : RepE Γ (D :: L) m2 H'' (wipeE env own) (wipe σ own) := ((re.apart hD).grow gw).wipe own
  unfold stepR turnR at k
  split at k
  · rename_i env' he
    refine hg.2 (D :: L) m2 h2 H'' _ env' (wipe σ own) vl x _ rh re2 rx he fun σ2 re3 l3 f3 => ⟨?_, ?_⟩
    · rw [← wipe_wipe σ own]
      exact wipe_eq l3 fun i hi => f3 i fun z => hi (ho i z)
    · refine ⟨D :: L, m2, h2, env', rh, re3, ?_⟩
      cases hc : ec env' h2 with
      | exc c p h3 =>
        rw [hc] at k
        exact k.elim
      | bad =>
        rw [hc] at k
        exact k.elim
      | ok b h3 =>
        rw [hc] at k
        intro m3 H3 u g3 rh3 e
        cases e
        have keepD : H3 D = some (.lst us) := g3.keep D _ (g2.keep D _ eD nD) nD
        have nD3 : D ∉ m3 := fun z => rh3.ap D z List.mem_cons_self
        have ra3 := (ra.grow' g2).grow' g3
        cases b with
        | false =>
          rw [if_neg Bool.false_ne_true]
          exact hn H3 ⟨m3, h3, acc, us, gw.tr rh g3, rh3, nD3, keepD, ra3, k⟩
        | true =>
          rw [if_pos rfl]
          refine ⟨D :: L, m3, h3, env', rh3, re3.grow g3, ?_⟩
          cases hee : ee env' h3 with
          | exc c p h4 =>
            replace k : okF Γ W L m1 H1 σ (bnd (noX (bnd (ee env' h3) fun y h => .ok (some y) h)) fun o h1 => match o with
              | some y => if acc.length < line then K (acc ++ [y]) h1 else .bad
              | none => K acc h1) Q := k
            rw [hee] at k
            exact k.elim
          | bad =>
            replace k : okF Γ W L m1 H1 σ (bnd (noX (bnd (ee env' h3) fun y h => .ok (some y) h)) fun o h1 => match o with
              | some y => if acc.length < line then K (acc ++ [y]) h1 else .bad
              | none => K acc h1) Q := k
            rw [hee] at k
            exact k.elim
          | ok y h4 =>
            replace k : okF Γ W L m1 H1 σ (bnd (noX (bnd (ee env' h3) fun y h => .ok (some y) h)) fun o h1 => match o with
              | some y => if acc.length < line then K (acc ++ [y]) h1 else .bad
              | none => K acc h1) Q := k
            rw [hee] at k
            replace k : okF Γ W L m1 H1 σ (if acc.length < line then K (acc ++ [y]) h4 else .bad) Q := k
            intro m4 H4 uy g4 rh4 ry
            split at k
            · rename_i hz
              have keep4 : H4 D = some (.lst us) := g4.keep D _ keepD nD3
              have nD4 : D ∉ m4 := fun z => rh4.ap D z List.mem_cons_self
              have c := Chg.upd (us' := us ++ [uy]) keep4
              refine ⟨us, keep4, by rw [← ra.length, ← line_eq]; exact hz, hn _ ⟨m4, h4, acc ++ [y], us ++ [uy], Grow.updD hD ((gw.tr rh g3).tr rh3 g4), rh4.chg keep4, nD4, upd_same, ?_, k⟩⟩
              exact ((ra3.grow' g4).chg c).append ⟨ry.chg c, trivial⟩
            · exact k.elim
  · exact k.elim
theorem comp_te {tg : Tg} {target : Expr} {g : TG} {own : List Nat} {ec : Env → Hh → R Bool} {ee : Env → Hh → R Vl} {ew : Env → Hh → R Wk} (X' : Cx) (hg : TgOk X' Γ tg target g) (ho : ∀ i ∈ slots tg, i ∈ own) {σ : L2.St} {H : Hp} {Q : VK}
    (hq : tF Γ W (fun env h => bnd (ew env h) fun w h => walkC (turnR tg own env ec ee) w h) σ H Q) : tLc (tW Γ W ew) g (tB' Γ W0 ec) (tE Γ W0 ee) own σ H Q := by
  obtain ⟨L, m, h, env, rh, re, k⟩ := hq
  refine ⟨L, m, h, env, rh, re, okF.bind rh k fun m1 H1 w h1 J g1 rh1 rw1 k1 => fun D hD => ?_⟩
  have re1 := re.grow g1
  have out := rh1.out hD
  have start : ∀ {K : List Vl → Hh → R (List Vl)}, okF Γ W L m1 H1 σ (K [] h1) Q → CSt Γ W L D m1 H1 σ Q K (upd H1 D (.lst [])) := fun {K} k => ⟨m1, h1, [], [], Grow.fresh hD, rh1.reserve hD, out.1, upd_same, trivial, k⟩
  have fin : ∀ {K : List Vl → Hh → R (List Vl)} {H' : Hp}, (∀ acc h, K acc h = .ok acc h) → CSt Γ W L D m1 H1 σ Q K H' → Q (.ref D) H' := fun {K H'} e ⟨m2, h2, acc, us, g, rh, nD, eD, ra, k⟩ => by
    rw [e] at k
    exact k m2 H' D us g hD nD out.2 eD ra rh
  cases w with
  | its xs =>
    obtain ⟨G, Y, wk, st, yl⟩ := rw1
    refine lc_it wk (fun i H' => CSt Γ W L D m1 H1 σ Q (fun acc h => compL (turnR tg own env ec ee) (xs.drop i) acc h) H') (start k1) (fun i H' _ z => let ⟨m2, h2, acc, us, g, _⟩ := z; st m2 H' g) (fun i x H' H'' hi z y => ?_) fun H' z => ?_
    · obtain ⟨m2, h2, acc, us, g, rh, nD, eD, ra, k⟩ := z
      obtain ⟨g', rh', vl, ev, rv⟩ := yl (D :: L) (.inr ⟨D, hD, rfl⟩) i m2 h2 H' x H'' hi g rh y
      have ed : xs.drop i = vl :: xs.drop (i + 1) := by
        rw [List.drop_eq_getElem_cons hi]
        rw [List.getElem?_eq_getElem hi] at ev
        rw [Option.some.inj ev]
      rw [ed] at k
      exact comp_step (K := fun acc h => compL (turnR tg own env ec ee) (xs.drop (i + 1)) acc h) hg ho hD rh1 re1 g nD eD ra rh g' rh' rv k fun H3 z => z
    · refine fin (K := fun acc h => compL (turnR tg own env ec ee) (xs.drop xs.length) acc h) (fun acc h => ?_) z
      rw [List.drop_length]
      rfl
  | live n =>
    obtain ⟨a, ea, rfl⟩ := rw1
    have k1 : okF Γ W L m1 H1 σ (compN (turnR tg own env ec ee) n fuelW 0 [] h1) Q := k1
    refine ⟨fun i mm H' => CSt Γ W L D m1 H1 σ Q (fun acc h => compN (turnR tg own env ec ee) n mm i acc h) H', ⟨fuelW, start k1⟩, fun i mm H' z => ?_⟩
    obtain ⟨m2, h2, acc, us, g, rh, nD, eD, ra, k⟩ := z
    cases mm with
    | zero => exact k.elim
    | succ mm =>
      have e2 := g.get ea
      replace k : okF Γ W L m1 H1 σ (match h2[n]? with
        | some (.lst ys) => match ys[i]? with
          | some x => stepR (turnR tg own env ec ee) (fun acc h => compN (turnR tg own env ec ee) n mm (i + 1) acc h) x acc h2
          | none => .ok acc h2
        | _ => .bad) Q := k
      split at k
      · rename_i ys hy
        obtain ⟨ws, e3, rr⟩ := rh.at_ e2 hy
        split at k
        · rename_i x hx
          obtain ⟨u, eu, ru⟩ := rr.get hx
          refine .inr ⟨⟨ws, u, SqL.of e3, eu⟩, _, fun H3 z => ⟨mm, Nat.lt_succ_self _, z⟩, fun v H'' y => ?_⟩
          obtain ⟨rfl, y⟩ := y
          have := y ws (SqL.of e3)
          rw [eu] at this
          cases this
          exact comp_step (K := fun acc h => compN (turnR tg own env ec ee) n mm (i + 1) acc h) hg ho hD rh1 re1 g nD eD ra rh (Grow.refl _ _) rh ru k fun H3 z => z
        · rename_i hx
          refine .inl ⟨⟨ws, SqL.of e3, ?_⟩, k m2 H' D us g hD nD out.2 eD ra rh⟩
          rw [← rr.length]
          exact List.getElem?_eq_none_iff.mp hx
      · exact k.elim
def okS (Γ : Gm) (W : WX) (L m : List Addr) (H : Hp) (r : R Oc) (D : Ends) : Prop :=
  match r with
  | .ok (.nx env) h => ∀ m' H' σ', Grow m H m' H' → RepH Γ L m' h H' → RepE Γ L m' H' env σ' → D.nx σ' H'
  | .ok (.bk env) h => ∀ m' H' σ', Grow m H m' H' → RepH Γ L m' h H' → RepE Γ L m' H' env σ' → D.bk σ' H'
  | .ok (.ct env) h => ∀ m' H' σ', Grow m H m' H' → RepH Γ L m' h H' → RepE Γ L m' H' env σ' → D.ct σ' H'
  | .ok (.rt v) h => ∀ m' H' u, Grow m H m' H' → RepH Γ L m' h H' → RepV Γ L m' H' v u → D.rt u H'
  | .exc c p h => ∀ m' H' d σ', Grow m H m' H' → RepH Γ L m' h H' → RepX Γ L m' H' c p d → W (.ref (Γ.xa c)) d σ' H'
  | .bad => False
def tS (Γ : Gm) (W : WX) (ev : Env → Hh → R Oc) : TS := fun D σ H => ∃ L m h env, RepH Γ L m h H ∧ RepE Γ L m H env σ ∧ okS Γ W L m H (ev env h) D
theorem okS.later {L m m1 : List Addr} {H H1 : Hp} {h1 : Hh} {r : R Oc} {D : Ends} (k : okS Γ W L m H r D) (g : Grow m H m1 H1) (rh : RepH Γ L m1 h1 H1) : okS Γ W L m1 H1 r D := by
  cases r with
  | ok a h => cases a with
    | nx env => exact fun m' H' σ' g' => k m' H' σ' (g.tr rh g')
    | bk env => exact fun m' H' σ' g' => k m' H' σ' (g.tr rh g')
    | ct env => exact fun m' H' σ' g' => k m' H' σ' (g.tr rh g')
    | rt v => exact fun m' H' σ' g' => k m' H' σ' (g.tr rh g')
  | exc c p h => exact fun m' H' d σ' g' => k m' H' d σ' (g.tr rh g')
  | bad => exact k
theorem okS.bind {α β : Type} {rel : List Addr → Hp → α → β → Prop} {L m : List Addr} {H : Hp} {σ : L2.St} {r : R α} {f : α → Hh → R Oc} {D : Ends} {Q' : β → Hp → Prop} (k : okS Γ W L m H (bnd r f) D)
    (st : ∀ m1 H1 a h1 u, Grow m H m1 H1 → RepH Γ L m1 h1 H1 → rel m1 H1 a u → okS Γ W L m1 H1 (f a h1) D → Q' u H1) : okG Γ W L m H σ rel r Q' := by
  cases r with
  | ok a h => exact fun m' H' u g rh ru => st m' H' a h u g rh ru (okS.later k g rh)
  | exc c p h => exact fun m' H' d g rh rx => k m' H' d σ g rh rx
  | bad => exact k
theorem okS.seq {L m : List Addr} {H : Hp} {r : R Oc} {f : Env → Hh → R Oc} {D : Ends} (k : okS Γ W L m H (bndS r f) D) : okS Γ W L m H r { D with nx := fun σ' H' => tS Γ W f D σ' H' } := by
  cases r with
  | ok a h => cases a with
    | nx env => exact fun m' H' σ' g rh re => ⟨L, m', h, env, rh, re, okS.later k g rh⟩
    | bk env => exact k
    | ct env => exact k
    | rt v => exact k
  | exc c p h => exact k
  | bad => exact k
theorem okS.now {L m : List Addr} {H : Hp} {σ : L2.St} {env : Env} {h : Hh} {D : Ends} (k : okS Γ W L m H (.ok (.nx env) h) D) (rh : RepH Γ L m h H) (re : RepE Γ L m H env σ) : D.nx σ H := k m H σ (Grow.refl _ _) rh re
def FSt (Γ : Gm) (W : WX) (L m1 : List Addr) (H1 : Hp) (D : Ends) (K : Env → Hh → R Oc) (σ : L2.St) (H' : Hp) : Prop :=
  ∃ m2 h2 env, Grow m1 H1 m2 H' ∧ RepH Γ L m2 h2 H' ∧ RepE Γ L m2 H' env σ ∧ okS Γ W L m1 H1 (K env h2) D
def stepF (turn : Vl → Env → Hh → R Oc) (K : Env → Hh → R Oc) (x : Vl) (env : Env) (h : Hh) : R Oc := match turn x env h with
  | .ok (.nx env1) h1 => K env1 h1
  | .ok (.ct env1) h1 => K env1 h1
  | .ok (.bk env1) h1 => .ok (.nx env1) h1
  | .ok (.rt v) h1 => .ok (.rt v) h1
  | .exc c p h1 => .exc c p h1
  | .bad => .bad
def turnF (tg : Tg) (eb : Env → Hh → R Oc) (x : Vl) (env : Env) (h : Hh) : R Oc := match tgV tg x env with
  | some env' => eb env' h
  | none => .bad
theorem body_step {L m1 m2 : List Addr} {H1 H' : Hp} {h2 : Hh} {env : Env} {σ : L2.St} {D : Ends} {eb : Env → Hh → R Oc} {K : Env → Hh → R Oc} {Nx : L2.St → Hp → Prop} (g : Grow m1 H1 m2 H') (rh : RepH Γ L m2 h2 H') (re : RepE Γ L m2 H' env σ)
    (k : okS Γ W L m1 H1 (match eb env h2 with
      | .ok (.nx env1) h1 => K env1 h1
      | .ok (.ct env1) h1 => K env1 h1
      | .ok (.bk env1) h1 => .ok (.nx env1) h1
      | .ok (.rt v) h1 => .ok (.rt v) h1
      | .exc c p h1 => .exc c p h1
      | .bad => .bad) D) (hn : ∀ σ' H3, FSt Γ W L m1 H1 D K σ' H3 → Nx σ' H3) : tS Γ W eb { D with nx := Nx, ct := Nx, bk := D.nx } σ H' := by
  refine ⟨L, m2, h2, env, rh, re, ?_⟩
  cases hr : eb env h2 with
  | bad =>
    rw [hr] at k
    exact k
  | exc c p h3 =>
    rw [hr] at k
    exact fun m' H3 d σ' g' rh' => k m' H3 d σ' (g.tr rh g') rh'
  | ok o h3 =>
    rw [hr] at k
    cases o with
    | nx env1 => exact fun m' H3 σ' g' rh' re' => hn σ' H3 ⟨m', h3, env1, g.tr rh g', rh', re', k⟩
    | ct env1 => exact fun m' H3 σ' g' rh' re' => hn σ' H3 ⟨m', h3, env1, g.tr rh g', rh', re', k⟩
    | bk env1 => exact fun m' H3 σ' g' => k m' H3 σ' (g.tr rh g')
    | rt v => exact fun m' H3 u g' => k m' H3 u (g.tr rh g')
theorem s_for {tg : Tg} {target iter : Expr} {g : TG} {body : List Stmt} {pos : Pos} {ew : Env → Hh → R Wk} {eb : Env → Hh → R Oc} (C : Cn X Γ W) (hp : PassesOwn (model X.prog X.w) X.A X.env X.xe) (hi : PI X target iter (tW Γ W ew)) (hg : TgOk X Γ tg target g)
    (hb : PSs X body (tS Γ W eb)) (hs : ∀ x, foldedSetIterable iter X.env x = pure x) : PS X (.For target iter body [] pos) (tS Γ W fun env h => bnd (ew env h) fun w h => walkF (turnF tg eb) w env h) := by
  refine ps_imp (ps_for hp C.calm hi hg.1 hb hs) fun D σ H hq => ?_
  obtain ⟨L, m, h, env, rh, re, k⟩ := hq
  refine ⟨L, m, h, env, rh, re, okS.bind k fun m1 H1 w h1 J g1 rh1 rw1 k1 => ?_⟩
  have re1 := re.grow g1
  cases w with
  | its xs =>
    obtain ⟨G, Y, wk, st, yl⟩ := rw1
    refine for_it wk (fun i σ' H' => FSt Γ W L m1 H1 D (fun env h => forL (turnF tg eb) (xs.drop i) env h) σ' H') ⟨m1, h1, env, Grow.refl _ _, rh1, re1, k1⟩ (fun i σ' H' _ z => let ⟨m2, h2, env2, g, _⟩ := z; st m2 H' g) (fun i x σ' H' H'' hi z y => ?_) fun σ' H' z => ?_
    · obtain ⟨m2, h2, env2, g, rh2, re2, k⟩ := z
      obtain ⟨g', rh', vl, ev, rv⟩ := yl L (.inl rfl) i m2 h2 H' x H'' hi g rh2 y
      have ed : xs.drop i = vl :: xs.drop (i + 1) := by
        rw [List.drop_eq_getElem_cons hi]
        rw [List.getElem?_eq_getElem hi] at ev
        rw [Option.some.inj ev]
      rw [ed] at k
      replace k : okS Γ W L m1 H1 (stepF (turnF tg eb) (fun env h => forL (turnF tg eb) (xs.drop (i + 1)) env h) vl env2 h2) D := k
      unfold stepF turnF at k
      cases ht : tgV tg vl env2 with
      | none =>
        rw [ht] at k
        exact k.elim
      | some env' =>
        rw [ht] at k
        refine hg.2 L m2 h2 H'' env2 env' σ' vl x _ rh' (re2.grow g') rv ht fun σ2 re3 _ _ => ?_
        exact body_step (K := fun env h => forL (turnF tg eb) (xs.drop (i + 1)) env h) (g.tr rh2 g') rh' re3 k fun σ3 H3 z => z
    · obtain ⟨m2, h2, env2, g, rh2, re2, k⟩ := z
      rw [List.drop_length] at k
      exact k m2 H' σ' g rh2 re2
  | live n =>
    obtain ⟨a, ea, rfl⟩ := rw1
    have k1 : okS Γ W L m1 H1 (forN (turnF tg eb) n fuelW 0 env h1) D := k1
    refine ⟨fun i mm σ' H' => FSt Γ W L m1 H1 D (fun env h => forN (turnF tg eb) n mm i env h) σ' H', ⟨fuelW, m1, h1, env, Grow.refl _ _, rh1, re1, k1⟩, fun i mm σ' H' z => ?_⟩
    obtain ⟨m2, h2, env2, g, rh2, re2, k⟩ := z
    cases mm with
    | zero => exact k.elim
    | succ mm =>
      have e2 := g.get ea
      replace k : okS Γ W L m1 H1 (match h2[n]? with
        | some (.lst ys) => match ys[i]? with
          | some x => stepF (turnF tg eb) (fun env h => forN (turnF tg eb) n mm (i + 1) env h) x env2 h2
          | none => .ok (.nx env2) h2
        | _ => .bad) D := k
      split at k
      · rename_i ys hy
        obtain ⟨ws, e3, rr⟩ := rh2.at_ e2 hy
        split at k
        · rename_i x hx
          obtain ⟨u, eu, ru⟩ := rr.get hx
          refine .inr ⟨⟨ws, u, SqL.of e3, eu⟩, _, fun σ3 H3 z => ⟨mm, Nat.lt_succ_self _, z⟩, fun v H'' y => ?_⟩
          obtain ⟨rfl, y⟩ := y
          have := y ws (SqL.of e3)
          rw [eu] at this
          cases this
          unfold stepF turnF at k
          cases ht : tgV tg x env2 with
          | none =>
            rw [ht] at k
            exact k.elim
          | some env' =>
            rw [ht] at k
            refine hg.2 L m2 h2 H'' env2 env' σ' x _ _ rh2 re2 ru ht fun σ2 re3 _ _ => ?_
            exact body_step (K := fun env h => forN (turnF tg eb) n mm (i + 1) env h) g rh2 re3 k fun σ3 H3 z => z
        · rename_i hx
          refine .inl ⟨⟨ws, SqL.of e3, ?_⟩, k m2 H' σ' g rh2 re2⟩
          rw [← rr.length]
          exact List.getElem?_eq_none_iff.mp hx
      · exact k.elim
theorem s_while {c : Expr} {body : List Stmt} {pos : Pos} {ec : Env → Hh → R Vl} {eb : Env → Hh → R Oc} (C : Cn X Γ W) (hp : PassesOwn (model X.prog X.w) X.A X.env X.xe) (hc : PT X c (tB' Γ W (tru ec))) (hb : PSs X body (tS Γ W eb)) :
    PS X (.While c body [] pos) (tS Γ W fun env h => whileL (tru ec) eb fuelW env h) := by
  refine ps_imp (ps_while hp hc hb) fun D σ H hq => ?_
  obtain ⟨L, m, h, env, rh, re, k⟩ := hq
  refine ⟨fun mm σ' H' => FSt Γ W L m H D (fun env h => whileL (tru ec) eb mm env h) σ' H', ⟨fuelW, m, h, env, Grow.refl _ _, rh, re, k⟩, fun mm σ' H' z => ?_⟩
  obtain ⟨m2, h2, env2, g, rh2, re2, k⟩ := z
  cases mm with
  | zero => exact k.elim
  | succ mm =>
    replace k : okS Γ W L m H (match tru ec env2 h2 with
      | .ok true h1 => match eb env2 h1 with
        | .ok (.nx env2) h2 => whileL (tru ec) eb mm env2 h2
        | .ok (.ct env2) h2 => whileL (tru ec) eb mm env2 h2
        | .ok (.bk env2) h2 => .ok (.nx env2) h2
        | .ok (.rt v) h2 => .ok (.rt v) h2
        | .exc c p h2 => .exc c p h2
        | .bad => .bad
      | .ok false h1 => .ok (.nx env2) h1
      | .exc c p h1 => .exc c p h1
      | .bad => .bad) D := k
    refine ⟨L, m2, h2, env2, rh2, re2, ?_⟩
    cases hr : tru ec env2 h2 with
    | bad =>
      rw [hr] at k
      exact k
    | exc c p h3 =>
      rw [hr] at k
      exact fun m' H3 d g' rh' rx => k m' H3 d σ' (g.tr rh2 g') rh' rx
    | ok b h3 =>
      rw [hr] at k
      intro m3 H3 u g3 rh3 e
      cases e
      cases b with
      | false =>
        rw [if_neg Bool.false_ne_true]
        exact k m3 H3 σ' (g.tr rh2 g3) rh3 (re2.grow g3)
      | true =>
        rw [if_pos rfl]
        refine ⟨_, fun σ4 H4 z => ⟨mm, Nat.lt_succ_self _, z⟩, ?_⟩
        exact body_step (K := fun env h => whileL (tru ec) eb mm env h) (g.tr rh2 g3) rh3 (re2.grow g3) k fun σ3 H3 z => z
end
end Mi
set_option Elab.async false
set_option linter.all false
set_option maxRecDepth 100000
set_option maxHeartbeats 4000000
namespace Mi
open PySem PySem.Spec PyProof.Rows L2
def isLC : Expr → Bool
  | .ListComp _ _ _ _ => true
  | .SetComp _ _ _ _ => true
  | .DictComp _ _ _ _ _ => true
  | _ => false
theorem swaps_no {e : Expr} {t : Option Expr} {l : Nat} {env : PySem.Env} (h : isLC e = false) : swapsWith e t l env = pure false := by
  cases e <;> first | rfl | (cases h)
theorem swaps_tup {e : Expr} {ts : List Expr} {k : Nat} {pos : Pos} {l : Nat} {env : PySem.Env} : swapsWith e (some (.Tuple ts k pos)) l env = pure false := by
  cases e <;> rfl
def isTup : Expr → Bool
  | .Tuple _ _ _ => true
  | .List _ _ => true
  | _ => false
theorem swapped_no {t e : Expr} {env : PySem.Env} (h : isTup e = false) : swappedStores [t] e env = pure none := by
  cases e <;> first | (cases h; done) | (cases t <;> rfl)
section
variable {X : Cx} {Γ : Gm} {W : WX} {e a b : Expr} {pos p : Pos} {ea ei eo : Env → Hh → R Vl} {sa sb : Env → Hh → R Oc} {as bs : List Stmt}
def nxR (env : Env) (h : Hh) : R Oc := .ok (.nx env) h
theorem s_skip {st : Stmt} (h : PS X st tNext) : PS X st (tS Γ W nxR) := by
  refine ps_imp h fun D σ H hq => ?_
  obtain ⟨L, m, h, env, rh, re, k⟩ := hq
  exact okS.now k rh re
theorem ss_nil : PSs X [] (tS Γ W nxR) := by
  refine pss_imp pss_nil fun D σ H hq => ?_
  obtain ⟨L, m, h, env, rh, re, k⟩ := hq
  exact okS.now k rh re
theorem ss_one {st : Stmt} (h : PS X st (tS Γ W sa)) : PSs X [st] (tS Γ W sa) := pss_one h
theorem ss_cons {st : Stmt} (h : PS X st (tS Γ W sa)) (hr : PSs X bs (tS Γ W sb)) : PSs X (st :: bs) (tS Γ W fun env h => bndS (sa env h) sb) := by
  refine pss_imp (pss_cons h hr) fun D σ H hq => ?_
  obtain ⟨L, m, h, env, rh, re, k⟩ := hq
  exact ⟨L, m, h, env, rh, re, okS.seq k⟩
theorem s_expr (he : PE X e (tE Γ W ea)) (hl : isLC e = false) : PS X (.Expr e pos) (tS Γ W fun env h => bnd (ea env h) fun _ h => .ok (.nx env) h) := by
  refine ps_imp (ps_expr he (swaps_no hl)) fun D σ H hq => ?_
  obtain ⟨L, m, h, env, rh, re, k⟩ := hq
  exact ⟨L, m, h, env, rh, re, okS.bind k fun m1 H1 x h1 u g1 rh1 rx k1 => k1.now rh1 (re.grow g1)⟩
def asgR (tg : Tg) (env : Env) (v : Vl) (h : Hh) : R Oc := match tgV tg v env with
  | some env' => .ok (.nx env') h
  | none => .bad
theorem asg_te {tg : Tg} {target : Expr} {g : TG} {te : TE} (hg : TgOk X Γ tg target g) {D : Ends} {σ : L2.St} {H : Hp} (hq : tS Γ W (fun env h => bnd (ea env h) (asgR tg env)) D σ H) : tE Γ W ea σ H fun x H1 => g x σ H1 D.nx := by
  obtain ⟨L, m, h, env, rh, re, k⟩ := hq
  refine ⟨L, m, h, env, rh, re, okS.bind k fun m1 H1 x h1 u g1 rh1 rx k1 => ?_⟩
  unfold asgR at k1
  split at k1
  · rename_i env' he
    exact hg.2 L m1 h1 H1 env env' σ x u _ rh1 (re.grow g1) rx he fun σ' re' _ _ => k1.now rh1 re'
  · exact k1.elim
theorem s_asg {tg : Tg} {target : Expr} {g : TG} (he : PE X e (tE Γ W ea)) (hg : TgOk X Γ tg target g) (hs : swapsWith e (some target) pos.line X.env = pure false) (hw : swappedStores [target] e X.env = pure none) (hst : isStar target = false) :
    PS X (.Assign [target] e pos) (tS Γ W fun env h => bnd (ea env h) (asgR tg env)) :=
  ps_imp (ps_asg he hg.1 hs hw (by cases target <;> first | rfl | cases hst)) fun D σ H hq => asg_te (te := tE Γ W ea) hg hq
theorem s_set {i : Nat} {x : Str} (C : Cn X Γ W) (hi : X.N[i]? = some x) (hx : Loc X.env.scope x) (hf : X.fn x = true ∨ X.env.scope.names.lookup x = some .local) (he : PE X e (tE Γ W ea)) (hs : swapsWith e (some (.Name x p)) pos.line X.env = pure false) :
    PS X (.Assign [.Name x p] e pos) (tS Γ W fun env h => bnd (ea env h) (asgR (.n i) env)) :=
  ps_imp (ps_set C.nd hi hx he hs hf) fun D σ H hq => asg_te (te := tE Γ W ea) (tg_name C.nd hi hx hf (pos := p)) hq
theorem s_ret (he : PE X e (tE Γ W ea)) : PS X (.Return (some e) pos) (tS Γ W fun env h => bnd (ea env h) fun v h => .ok (.rt v) h) := by
  refine ps_imp (ps_ret he) fun D σ H hq => ?_
  obtain ⟨L, m, h, env, rh, re, k⟩ := hq
  exact ⟨L, m, h, env, rh, re, okS.bind k fun m1 H1 x h1 u g1 rh1 rx k1 => k1 m1 H1 u (Grow.refl _ _) rh1 rx⟩
theorem s_retN : PS X (.Return none pos) (tS Γ W fun env h => bnd (.ok .non h) fun v h => .ok (.rt v) h) := by
  refine ps_imp ps_retN fun D σ H hq => ?_
  obtain ⟨L, m, h, env, rh, re, k⟩ := hq
  exact k m H .non (Grow.refl _ _) rh rfl
theorem s_brk : PS X (.Break pos) (tS Γ W fun env h => .ok (.bk env) h) := by
  refine ps_imp ps_break fun D σ H hq => ?_
  obtain ⟨L, m, h, env, rh, re, k⟩ := hq
  exact k m H σ (Grow.refl _ _) rh re
theorem s_cnt : PS X (.Continue pos) (tS Γ W fun env h => .ok (.ct env) h) := by
  refine ps_imp ps_continue fun D σ H hq => ?_
  obtain ⟨L, m, h, env, rh, re, k⟩ := hq
  exact k m H σ (Grow.refl _ _) rh re
def ifR (x : Vl) (h : Hh) (f g : R Oc) : R Oc := match truth h x with
  | some true => f
  | some false => g
  | none => .bad
theorem s_if {c : Expr} {ec : Env → Hh → R Vl} (hc : PT X c (tB' Γ W (tru ec))) (ha : PSs X as (tS Γ W sa)) (hb : PSs X bs (tS Γ W sb)) : PS X (.If c as bs pos) (tS Γ W fun env h => bnd (ec env h) fun x h => ifR x h (sa env h) (sb env h)) := by
  refine ps_imp (ps_if hc ha hb) fun D σ H hq => ?_
  obtain ⟨L, m, h, env, rh, re, k⟩ := hq
  refine ⟨L, m, h, env, rh, re, ?_⟩
  unfold tru
  dsimp only at k
  cases hr : ec env h with
  | exc c p h1 =>
    rw [hr] at k
    exact fun m' H' d g rh rx => k m' H' d σ g rh rx
  | bad =>
    rw [hr] at k
    exact k
  | ok x h1 =>
    rw [hr] at k
    have k : okS Γ W L m H (ifR x h1 (sa env h1) (sb env h1)) D := k
    show okG Γ W L m H σ _ (lift (truth h1 x) h1) _
    unfold ifR at k
    split at k
    · rename_i ht
      rw [ht]
      intro m1 H1 u g1 rh1 e
      cases e
      rw [if_pos rfl]
      exact ⟨L, m1, h1, env, rh1, re.grow g1, okS.later k g1 rh1⟩
    · rename_i ht
      rw [ht]
      intro m1 H1 u g1 rh1 e
      cases e
      rw [if_neg Bool.false_ne_true]
      exact ⟨L, m1, h1, env, rh1, re.grow g1, okS.later k g1 rh1⟩
    · exact k.elim
def augR' (o : BO) (i : Nat) (env : Env) (x y : Vl) (h : Hh) : R Oc := match augV o h x y with
  | some v => .ok (.nx (putE env i v)) h
  | none => .bad
theorem s_aug {i : Nat} {x : Str} {o : BO} (C : Cn X Γ W) (hi : X.N[i]? = some x) (hx : Loc X.env.scope x) (hf : X.fn x = true ∨ X.env.scope.names.lookup x = some .local) (he : PE X e (tE Γ W ea)) :
    PS X (.AugAssign (.Name x p) (bo o) e pos) (tS Γ W fun env h => match env[i]? with
      | some (some x) => bnd (ea env h) fun y h => augR' o i env x y h
      | _ => .bad) := by
  refine ps_imp (ps_aug C.nd hi hx he (op_augV (Γ := Γ) o) hf) fun D σ H hq => ?_
  obtain ⟨L, m, h, env, rh, re, k⟩ := hq
  dsimp only at k
  split at k
  · rename_i v hv
    obtain ⟨u, e1, r⟩ := re.2 i v hv
    refine ⟨u, e1, L, m, h, env, rh, re, okS.bind k fun m1 H1 y h1 w g1 rh1 ry k1 => ?_⟩
    unfold augR' at k1
    split at k1
    · rename_i z hz
      refine ⟨L, m1, h1, v, y, z, rh1, r.grow g1, ry, hz, fun m2 H2 w2 g2 rh2 rz => ?_⟩
      exact k1 m2 H2 _ g2 rh2 (((re.grow g1).grow g2).put rz i)
    · exact k1.elim
  · exact k.elim
def isSlice : Expr → Bool
  | .Slice _ _ _ _ => true
  | _ => false
def setsR (env : Env) (h : Hh) (x y v : Vl) : R Oc := match setV h x y v with
  | some h => .ok (.nx env) h
  | none => .bad
theorem s_sets {o i : Expr} (C : Cn X Γ W) (he : PE X e (tE Γ W ea)) (ho : PE X o (tE Γ W eo)) (hi : PE X i (tE Γ W ei)) (hl : isLC e = false) (ht : isTup e = false) (hi' : isSlice i = false) :
    PS X (.Assign [.Subscript o i p] e pos) (tS Γ W fun env h => bnd (ea env h) fun v h => bnd (eo env h) fun x h => bnd (ei env h) fun y h => setsR env h x y v) := by
  refine ps_imp (ps_asg he (pg_sub ho hi (set_setV (Γ := Γ) C.u1) (by intros; cases i <;> first | rfl | cases hi')) (show swapsWith e (some (.Subscript o i p)) pos.line X.env = pure false from swaps_no hl) (swapped_no ht) rfl) fun D σ H hq => ?_
  obtain ⟨L, m, h, env, rh, re, k⟩ := hq
  refine ⟨L, m, h, env, rh, re, okS.bind k fun m1 H1 v h1 w g1 rh1 rv k1 => ⟨L, m1, h1, env, rh1, re.grow g1, okS.bind k1 fun m2 H2 x h2 u g2 rh2 rx k2 => ⟨L, m2, h2, env, rh2, (re.grow g1).grow g2, okS.bind k2 fun m3 H3 y h3 z g3 rh3 ry k3 => ?_⟩⟩⟩
  unfold setsR at k3
  split at k3
  · rename_i h4 hh
    refine ⟨L, m3, h3, x, y, v, h4, rh3, rx.grow g3, ry, (rv.grow g2).grow g3, hh, fun H4 g4 rh4 => ?_⟩
    exact k3 m3 H4 σ g4 rh4 (((re.grow g1).grow g2).grow g3 |>.grow g4)
  · exact k3.elim
theorem get_getO {hu : X.A.units + 1 < cLine} : PGet X (rV Γ getO) := by
  intro pins s σ H o i ov iv Q I ro ri hq
  obtain ⟨L, m, h, a, b, z, rh, ra, rb, e, k⟩ := hq
  unfold getO at e
  split at e
  · rename_i n
    obtain ⟨p, rfl, q⟩ := ra
    have dk : ∀ (us : List (Key × V)) (kvs : List (Vl × Vl)), H p = some (.dK us) → RepKs Γ L m H kvs us → keyOk b = true → dget b kvs = some z → wpAny (model X.prog X.w) X.A (getItem ov iv) (EP X pins σ Q) X.xe s := fun us kvs q rr hko hg => by
      obtain ⟨j, rk, ey⟩ := key_rep hko rb
      obtain ⟨w, hw, rw'⟩ := dget_some rk rr hg
      cases ro
      have g : DGet H p i (some w) := by
        rw [ey, ← hw]
        exact DGet.k q
      exact d_getItem hu I g ri fun w' s3 I3 r3 => ⟨w, H, I3, r3, k.now rh rw'⟩
    unfold subV at e
    dsimp only at e
    split at e
    · rename_i ix
      split at e
      · rename_i xs hx
        split at e
        · rename_i j hj
          obtain ⟨us, e2, rr⟩ := rh.at_ q hx
          obtain ⟨w, hw, rw'⟩ := rr.get e
          have ha := atI_of (us := us) rr.length.symm hj hw
          cases ro
          cases (show i = .int _ from rb)
          obtain ⟨t, rfl⟩ := ri
          obtain ⟨its, r, pl, hz⟩ := I.list (SqL.of e2)
          obtain ⟨j, h1, h2, h3, h4, h5⟩ := atI_get ha
          obtain ⟨w', ew, rw2⟩ := r.get h2
          have hl := r.length
          have hn := line63
          have fin : EP X pins σ Q w' s := ⟨w, H, I, rw2, k.now rh rw'⟩
          by_cases h0 : 0 ≤ ix
          · have hj : ix.toNat = j := by
              rw [seqIndex_of h0 h5] at h1
              exact Option.some.inj h1
            exact wpAny_getItem_list pl.isList h0 (by omega) (by rw [hj]; simpa using ew) fin
          · have hj : (ix + (its.toArray.size : Int)).toNat = j := by
              rw [seqIndex_neg (by omega) h4] at h1
              rw [List.size_toArray, ← hl]
              exact Option.some.inj h1
            exact wpAny_getItem_list_neg pl.isList (by omega) (by rw [List.size_toArray] <;> omega) (by omega) (by rw [hj]; simpa using ew) fin
        · cases e
      · rename_i kvs hk
        obtain ⟨us, e2, rr⟩ := rh.at_ q hk
        exact dk us kvs e2 rr rfl e
      · cases e
    · split at e
      · rename_i kvs hk
        obtain ⟨us, e2, rr⟩ := rh.at_ q hk
        exact dk us kvs e2 rr rfl e
      · cases e
    · cases e
  · cases e
def augsR (b : BO) (env : Env) (x y z w : Vl) (h : Hh) : R Oc := match augV b h z w with
  | some v => setsR env h x y v
  | none => .bad
def augs0 (ea : Env → Hh → R Vl) (b : BO) (env : Env) (x y : Vl) (h : Hh) : R Oc := match getO h x y with
  | some z => bnd (ea env h) fun w h => augsR b env x y z w h
  | none => .bad
theorem s_augs {o i : Expr} {b : BO} (C : Cn X Γ W) (he : PE X e (tE Γ W ea)) (ho : PE X o (tE Γ W eo)) (hi : PE X i (tE Γ W ei)) (hl : isSlice i = false) :
    PS X (.AugAssign (.Subscript o i p) (bo b) e pos) (tS Γ W fun env h => bnd (eo env h) fun x h => bnd (ei env h) fun y h => augs0 ea b env x y h) := by
  refine ps_imp (ps_augS ho hi (get_getO (hu := C.u1) (Γ := Γ)) he (op_augV (Γ := Γ) b) (set_setV (Γ := Γ) C.u1) (by intros; cases i <;> first | rfl | cases hl)) fun D σ H hq => ?_
  obtain ⟨L, m, h, env, rh, re, k⟩ := hq
  refine ⟨L, m, h, env, rh, re, okS.bind k fun m1 H1 x h1 u g1 rh1 rx k1 => ⟨L, m1, h1, env, rh1, re.grow g1, okS.bind k1 fun m2 H2 y h2 v g2 rh2 ry k2 => ?_⟩⟩
  have re2 := (re.grow g1).grow g2
  unfold augs0 at k2
  split at k2
  · rename_i z hz
    refine ⟨L, m2, h2, x, y, z, rh2, rx.grow g2, ry, hz, fun m3 H3 w g3 rh3 rz => ?_⟩
    refine ⟨L, m3, h2, env, rh3, re2.grow g3, okS.bind (okS.later k2 g3 rh3) fun m4 H4 w1 h4 w2 g4 rh4 rw4 k4 => ?_⟩
    unfold augsR at k4
    split at k4
    · rename_i v1 hv1
      refine ⟨L, m4, h4, z, w1, v1, rh4, rz.grow g4, rw4, hv1, fun m5 H5 u5 g5 rh5 r5 => ?_⟩
      have k5 := okS.later k4 g5 rh5
      unfold setsR at k5
      split at k5
      · rename_i h6 hh
        refine ⟨L, m5, h4, x, y, v1, h6, rh5, ((rx.grow g2).grow g3 |>.grow g4).grow g5, ((ry.grow g3).grow g4).grow g5, r5, hh, fun H6 g6 rh6 => ?_⟩
        exact k5 m5 H6 σ g6 rh6 (((re2.grow g3).grow g4).grow g5 |>.grow g6)
      · exact k5.elim
    · exact k4.elim
  · exact k2.elim
end
end Mi
set_option Elab.async false
set_option linter.all false
set_option maxRecDepth 100000
set_option maxHeartbeats 4000000
namespace Mi
open PySem PySem.Spec PyProof.Rows L2
def swNames (sc : Scope) (line : Nat) (ts : List Expr) : List Str := ts.filterMap fun
  | .Name id pos => if sc.names.lookup id == some .local && pos.line == line then some id else none
  | _ => none
def lineOf (ts : List Expr) : Nat := (ts.head?.map (·.pos.line)).getD 0
def hasStar (vs : List Expr) : Bool := vs.any fun | .Starred .. => true | _ => false
def swK (sc : Scope) (ts vs : List Expr) : Nat :=
  if (!(ts.length == 2 || ts.length == 3) || vs.length != ts.length || sc.kind != .function) = true then 0
  else if hasStar vs = true then 0
  else if ((swNames sc (lineOf ts) ts).length != ts.length || (swNames sc (lineOf ts) ts).eraseDups.length != (swNames sc (lineOf ts) ts).length) = true then 0
  else if vs.all (foldedForSure 8) = true then 0
  else if vs.all (constantsAlone 8) = true then 2
  else 1
theorem sw_raw {env : PySem.Env} {ts vs : List Expr} {k k2 : Nat} {p p2 : Pos} :
    swappedStores [.Tuple ts k p] (.Tuple vs k2 p2) env = (
  if (!(ts.length == 2 || ts.length == 3) || vs.length != ts.length || env.blockKind != .function) = true then pure none
  else if hasStar vs = true then pure none
  else if ((swNames env.scope (lineOf ts) ts).length != ts.length || (swNames env.scope (lineOf ts) ts).eraseDups.length != (swNames env.scope (lineOf ts) ts).length) = true then pure none
  else if vs.all (foldedForSure 8) = true then pure none
  else do
    if vs.all (constantsAlone 8) = true then unsupported "assign.tuple-of-constant-expressions:order-of-the-stores"
    pure (some (swNames env.scope (lineOf ts) ts))) := rfl
theorem sw_eq {env : PySem.Env} {ts vs : List Expr} {k k2 : Nat} {p p2 : Pos} (hk : env.scope.kind = .function) :
    (swK env.scope ts vs = 0 → swappedStores [.Tuple ts k p] (.Tuple vs k2 p2) env = pure none) ∧ (swK env.scope ts vs = 1 → swappedStores [.Tuple ts k p] (.Tuple vs k2 p2) env = pure (some (swNames env.scope (lineOf ts) ts))) := by
  have hb : env.blockKind = env.scope.kind := by
    unfold Env.blockKind
    rw [hk]
    rfl
  rw [sw_raw, hb]
  unfold swK
  split
  · exact ⟨fun _ => rfl, fun h => by cases h⟩
  · split
    · exact ⟨fun _ => rfl, fun h => by cases h⟩
    · split
      · exact ⟨fun _ => rfl, fun h => by cases h⟩
      · split
        · exact ⟨fun _ => rfl, fun h => by cases h⟩
        · split
          · exact ⟨fun h => (by cases h), fun h => by cases h⟩
          · exact ⟨fun h => (by cases h), fun _ => rfl⟩
section
variable {X : Cx} {Γ : Gm} {W : WX} {pos pt pt2 : Pos} {kt k2 : Nat} {el : Env → Hh → R (List Vl)} {ts vs : List Expr}
def parR (is : List Nat) (env : Env) (vs : List Vl) (h : Hh) : R Oc := match putEs env is vs with
  | some env' => .ok (.nx env') h
  | none => .bad
theorem s_parA {is : List Nat} {gs : TGs} (C : Cn X Γ W) (hg : TgsOk X Γ is ts gs) (hl : ts.length = is.length) (hst : noStars ts = true) (hz : is.length ≤ 1000) (ha : PA X vs (tL Γ W el)) (hw : swappedStores [.Tuple ts kt pt] (.Tuple vs k2 pt2) X.env = pure none) :
    PS X (.Assign [.Tuple ts kt pt] (.Tuple vs k2 pt2) pos) (tS Γ W fun env h => bnd (el env h) (parR is env)) := by
  refine ps_imp (ps_asg (pe_tup ha) (pg_tup C.calm hg.1 ((assign_plain hst).1.trans hl) (assign_find hst)) (show swapsWith (.Tuple vs k2 pt2) (some (.Tuple ts kt pt)) pos.line X.env = pure false from swaps_tup) hw rfl) fun D σ H hq => ?_
  obtain ⟨L, m, h, env, rh, re, k⟩ := hq
  refine ⟨L, m, h, env, rh, re, okS.bind k fun m1 H1 xs h1 us g1 rh1 rx k1 => ?_⟩
  unfold parR at k1
  split at k1
  · rename_i env' he
    have hl2 := putEs_len he
    have hlu : us.length = is.length := by rw [← rx.length]; exact hl2
    have g2 : ∀ p, H1 p = none → Grow m1 H1 m1 (upd H1 p (.tup us)) := fun p hp => Grow.fresh hp
    refine ⟨by rw [hlu]; exact Nat.le_of_lt (small1000 hz), fun p hp => ?_⟩
    rw [C.K]
    refine ⟨p, us, rfl, SqT.of upd_same, hlu, ?_⟩
    refine hg.2 L m1 h1 _ env env' σ xs us _ (rh1.fresh hp) ((re.grow g1).grow (g2 p hp)) (rx.grow' (g2 p hp)) he fun σ' re' _ _ => ?_
    exact k1 m1 _ σ' (g2 p hp) (rh1.fresh hp) re'
  · exact k1.elim
theorem s_par2 {i j : Nat} {x y : Str} {a b : Expr} {px py : Pos} (C : Cn X Γ W) (hi : X.N[i]? = some x) (hj : X.N[j]? = some y) (hij : i ≠ j) (hx : X.env.scope.names.lookup x = some .local) (hy : X.env.scope.names.lookup y = some .local) (ha : PA X [a, b] (tL Γ W el))
    (hw : swappedStores [.Tuple [.Name x px, .Name y py] kt pt] (.Tuple [a, b] k2 pt2) X.env = pure (some [x, y])) :
    PS X (.Assign [.Tuple [.Name x px, .Name y py] kt pt] (.Tuple [a, b] k2 pt2) pos) (tS Γ W fun env h => bnd (el env h) (parR [i, j] env)) := by
  refine ps_imp (ps_par C.calm C.nd hi hj hij hx hy ha hw) fun D σ H hq => ?_
  obtain ⟨L, m, h, env, rh, re, k⟩ := hq
  refine ⟨L, m, h, env, rh, re, okS.bind k fun m1 H1 xs h1 us g1 rh1 rx k1 => ?_⟩
  unfold parR at k1
  split at k1
  · rename_i env' he
    match xs, us, rx, he with
    | [u, v], [u', v'], rx, he =>
      cases Option.some.inj he
      exact ⟨u', v', rfl, k1.now rh1 (((re.grow g1).put rx.1 i).put rx.2.1 j)⟩
    | [], _, _, he => cases he
    | [_], _, _, he => cases he
    | _ :: _ :: _ :: _, _, _, he => cases he
  · exact k1.elim
theorem s_par3 {i j l : Nat} {x y z : Str} {a b c : Expr} {px py pz : Pos} (C : Cn X Γ W) (hi : X.N[i]? = some x) (hj : X.N[j]? = some y) (hl : X.N[l]? = some z) (hij : i ≠ j) (hil : i ≠ l) (hjl : j ≠ l) (hx : X.env.scope.names.lookup x = some .local) (hy : X.env.scope.names.lookup y = some .local) (hz : X.env.scope.names.lookup z = some .local)
    (ha : PA X [a, b, c] (tL Γ W el)) (hw : swappedStores [.Tuple [.Name x px, .Name y py, .Name z pz] kt pt] (.Tuple [a, b, c] k2 pt2) X.env = pure (some [x, y, z])) :
    PS X (.Assign [.Tuple [.Name x px, .Name y py, .Name z pz] kt pt] (.Tuple [a, b, c] k2 pt2) pos) (tS Γ W fun env h => bnd (el env h) (parR [i, j, l] env)) := by
  refine ps_imp (ps_par3 C.calm C.nd hi hj hl hij hil hjl hx hy hz ha hw) fun D σ H hq => ?_
  obtain ⟨L, m, h, env, rh, re, k⟩ := hq
  refine ⟨L, m, h, env, rh, re, okS.bind k fun m1 H1 xs h1 us g1 rh1 rx k1 => ?_⟩
  unfold parR at k1
  split at k1
  · rename_i env' he
    match xs, us, rx, he with
    | [u, v, w], [u', v', w'], rx, he =>
      cases Option.some.inj he
      exact ⟨u', v', w', rfl, k1.now rh1 ((((re.grow g1).put rx.1 i).put rx.2.1 j).put rx.2.2.1 l)⟩
    | [], _, _, he => cases he
    | [_], _, _, he => cases he
    | [_, _], _, _, he => cases he
    | _ :: _ :: _ :: _ :: _, _, _, he => cases he
  · exact k1.elim
variable {tg : Tg} {elt target iter : Expr} {ifs : List Expr} {scope : Scope} {own : List (Str × Nat)} {g : TG} {ec : Env → Hh → R Bool} {ee : Env → Hh → R Vl} {ew : Env → Hh → R Wk} {spos py : Pos}
abbrev InBlk (X : Cx) (scope : Scope) (P : Cx → Prop) : Prop := ∀ (s : Shared) (H : Hp) (C : Addr) (cl : List (Str × Addr)) (fp : List Addr), P (X.blk s H scope (compEnvC scope cl C X.env) fp)
theorem f_comp (C : Cn X Γ W) (hi : PI X target iter (tW Γ W ew)) (ok : BlkOk X.N X.env.scope scope own) (hg : InBlk X scope fun X => TgOk X Γ tg target g) (ht : InBlk X scope fun X => PTs X ifs (tB' Γ W0 ec)) (he : InBlk X scope fun X => PE X elt (tE Γ W0 ee))
    (ho : ∀ i ∈ slots tg, i ∈ own.map (·.2)) (hs : ∀ x, foldedSetIterable iter X.env x = pure x) :
    PE X (.ListComp elt [⟨target, iter, ifs, 0⟩] scope pos) (tF Γ W fun env h => bnd (ew env h) fun w h => walkC (turnR tg (own.map (·.2)) env ec ee) w h) := by
  refine pe_imp (pe_lc C.calm C.nd hi ok (fun s H A cl fp => (hg s H A cl fp).1) ht he hs) fun σ H Q hq => ?_
  exact comp_te _ (hg {} H 0 [] []) ho hq
theorem okS.fz {L m : List Addr} {H : Hp} {h : Hh} {σ : L2.St} {r : R (List Vl)} {f : Vl → Hh → R Oc} {D : Ends} {Q : VK} (k : okS Γ W L m H (bnd (bnd r fun xs h => .ok (.lst xs) h) f) D)
    (st : ∀ m1 H1 a h1 u, Grow m H m1 H1 → RepH Γ L m1 h1 H1 → RepV Γ L m1 H1 a u → okS Γ W L m1 H1 (f a h1) D → Q u H1) : okF Γ W L m H σ r Q := by
  cases r with
  | ok xs h => exact fun m' H' D us g hD n1 n2 e rr rh => st m' H' (.lst xs) h (.ref D) g rh.joined ⟨D, us, rfl, e, n1, n2, rr.joined⟩ (okS.later k g rh.joined)
  | exc c p h => exact fun m' H' d g rh rx => k m' H' d σ g rh rx
  | bad => exact k
theorem okS.th {L m : List Addr} {H : Hp} {h : Hh} {σ : L2.St} {r : R (List Vl)} {f : Vl → Hh → R Oc} {D : Ends} {Q : VK} (k : okS Γ W L m H (bnd (bnd r fun xs h => .ok (.ref h.length) (h ++ [.lst xs])) f) D)
    (st : ∀ m1 H1 a h1 u, Grow m H m1 H1 → RepH Γ L m1 h1 H1 → RepV Γ L m1 H1 a u → okS Γ W L m1 H1 (f a h1) D → Q u H1) : okF Γ W L m H σ r Q := by
  cases r with
  | ok xs h =>
    refine fun m' H' D us g hD n1 n2 e rr rh => ?_
    have g' : Grow m H (m' ++ [D]) H' := by
      refine ⟨?_, g.keep, g.tup, g.frz, g.own⟩
      obtain ⟨t, e1, f⟩ := g.ext
      refine ⟨t ++ [D], by rw [e1, List.append_assoc], fun a ha => ?_⟩
      rcases List.mem_append.mp ha with z | z
      · exact f a z
      · rw [List.mem_singleton.mp z]
        exact hD
    have rh' := rh.moved n1 n2 e rr
    refine st (m' ++ [D]) H' (.ref h.length) _ (.ref D) g' rh' ⟨D, rfl, ?_⟩ (okS.later k g' rh')
    rw [← rh.len, List.getElem?_append_right (Nat.le_refl _), Nat.sub_self]
    rfl
  | exc c p h => exact fun m' H' d g rh rx => k m' H' d σ g rh rx
  | bad => exact k
def keepR (w : Bool) (xs : List Vl) (h : Hh) : R Vl := match w with
  | true => .ok (.ref h.length) (h ++ [.lst xs])
  | false => .ok (.lst xs) h
theorem s_setLc {w : Bool} {i : Nat} {x : Str} (C : Cn X Γ W) (hx : X.N[i]? = some x) (hl : X.env.scope.names.lookup x = some .local) (hsw : swapsWith (.ListComp elt [⟨target, iter, ifs, 0⟩] scope pos) (some (.Name x py)) spos.line X.env = pure true)
    (hi : PI X target iter (tW Γ W ew)) (ok : BlkOk X.N X.env.scope scope own) (hg : InBlk X scope fun X => TgOk X Γ tg target g) (ht : InBlk X scope fun X => PTs X ifs (tB' Γ W0 ec)) (he : InBlk X scope fun X => PE X elt (tE Γ W0 ee))
    (ho : ∀ i ∈ slots tg, i ∈ own.map (·.2)) (hs : ∀ x, foldedSetIterable iter X.env x = pure x) :
    PS X (.Assign [.Name x py] (.ListComp elt [⟨target, iter, ifs, 0⟩] scope pos) spos) (tS Γ W fun env h => bnd (bnd (bnd (ew env h) fun w h => walkC (turnR tg (own.map (·.2)) env ec ee) w h) (keepR w)) (asgR (.n i) env)) := by
  refine ps_imp (ps_setLc C.calm C.nd hx hl hsw hi ok (fun s H A cl fp => (hg s H A cl fp).1) ht he hs) fun D σ H hq => ?_
  show tLc (tW Γ W ew) g (tB' Γ W0 ec) (tE Γ W0 ee) (own.map (·.2)) σ H fun x H1 => gName i x σ H1 D.nx
  refine comp_te _ (hg {} H 0 [] []) ho ?_
  obtain ⟨L, m, h, env, rh, re, k⟩ := hq
  refine ⟨L, m, h, env, rh, re, ?_⟩
  have fin : ∀ m1 H1 a h1 u, Grow m H m1 H1 → RepH Γ L m1 h1 H1 → RepV Γ L m1 H1 a u → okS Γ W L m1 H1 (asgR (.n i) env a h1) D → gName i u σ H1 D.nx := fun m1 H1 a h1 u g1 rh1 ra k1 => okS.now (show okS Γ W L m1 H1 (.ok (.nx (putE env i a)) h1) D from k1) rh1 ((re.grow g1).put ra i)
  cases w with
  | true => exact okS.th (h := h) k fin
  | false => exact okS.fz (h := h) k fin
end
end Mi
set_option Elab.async false
set_option linter.all false
set_option maxRecDepth 100000
set_option maxHeartbeats 4000000
namespace Mi
open PySem PySem.Spec PyProof.Rows L2
structure OwnOk (Γ : Gm) (c : Nat) : Prop where
  cls : L2.SCls Γ.K (Γ.ca c)
  fc : PySem.W.findIn Γ.K (.ref (Γ.ca c)) "__class__" = some (some (.builtin "object.__class__"))
  sp : PySem.W.specialIn Γ.K (.builtin "object.__class__") "__get__" = some (some (.builtin "getset_descriptor.__get__"))
  tk : PySem.W.takesIn Γ.K (.builtin "object.__class__") = some true
  mro : PySem.W.mroIn Γ.K (Γ.ca c) (.type "object") = some true
  ty : ∀ T ∈ ["int", "bool", "str", "tuple", "list"], PySem.W.kitOne Γ.K (.ref (Γ.ca c)) (.type T) = some false
def isNm : Bif → String
  | .isint => "int"
  | .isbool => "bool"
  | .isstr => "str"
  | .istuple => "tuple"
  | .islist => "list"
  | _ => ""
def kdNm : Kd → String
  | .non => "NoneType"
  | .bl => "bool"
  | .int => "int"
  | .str => "str"
  | .tup => "tuple"
  | .lst => "list"
  | .own _ => ""
section
variable {X : Cx} {Γ : Gm} {W : WX} {e : Expr} {p p2 p3 pos : Pos} {ea : Env → Hh → R Vl}
theorem kit_kd {K : PySem.W.Frag} {b : Bif} {k : Kd} {r : Bool} (hb : isNm b ≠ "") (hk : ∀ c, k ≠ .own c) (e : isKd b k = some r) : PySem.W.kitOne K (.type (kdNm k)) (.type (isNm b)) = some r := by
  cases b <;> first | exact absurd rfl hb | (cases k <;> first | exact absurd rfl (hk _) | (cases Option.some.inj e; exact kit_ty (by decide +kernel)))
theorem kd_own {b : Bif} {c : Nat} {r : Bool} (hb : isNm b ≠ "") (e : isKd b (.own c) = some r) : r = false ∧ isNm b ∈ ["int", "bool", "str", "tuple", "list"] := by
  cases b <;> first | exact absurd rfl hb | (cases Option.some.inj e; exact ⟨rfl, by decide⟩)
theorem ty_kd {L m : List Addr} {H : Hp} {h : Hh} {x : Vl} {u : V} {k : Kd} (rh : RepH Γ L m h H) (r : RepV Γ L m H x u) (e : kdOf h x = some k) (hk : ∀ c, k ≠ .own c) : TyX Γ.K H u (.type (kdNm k)) := by
  unfold kdOf at e
  split at e
  · cases Option.some.inj e; cases (show u = _ from r); exact .base .non
  · cases Option.some.inj e; cases (show u = _ from r); exact .base (.bl _)
  · cases Option.some.inj e; cases (show u = _ from r); exact .base (.int _)
  · cases Option.some.inj e; cases (show u = _ from r); exact .base (.str _)
  · cases Option.some.inj e
    obtain ⟨a, us, rfl, q, _⟩ := r
    rcases q with (q | ⟨o, q⟩) | ⟨o, its, n, q, c, _⟩
    · exact .base (.tup q)
    · exact .fTuple q
    · exact .kTuple q c
  · cases Option.some.inj e
    obtain ⟨a, us, rfl, q, _⟩ := r
    exact .base (.lst q)
  · cases Option.some.inj e
    exact absurd rfl (hk _)
  · split at e
    · rename_i l hl
      cases Option.some.inj e
      obtain ⟨a, rfl, q⟩ := r
      obtain ⟨us, e2, _⟩ := rh.at_ q hl
      exact .base (.lst e2)
    · cases e
  · cases e
def rIs (Γ : Gm) (b : Bif) (w : V) : List V → Hp → VK → Prop := fun xs H Q => ∃ x L m h a v, xs = [x, w] ∧ RepH Γ L m h H ∧ RepV Γ L m H a x ∧ isV b h a = some v ∧ okV Γ L m H h v Q
theorem isV_some {b : Bif} {h : Hh} {x v : Vl} (e : isV b h x = some v) : ∃ k r, kdOf h x = some k ∧ isKd b k = some r ∧ v = .bl r := by
  unfold isV at e
  split at e
  · rename_i k hk
    split at e
    · rename_i r hr
      exact ⟨k, r, hk, hr, (Option.some.inj e).symm⟩
    · cases e
  · cases e
theorem kd_ins {h : Hh} {x : Vl} {c : Nat} (e : kdOf h x = some (.own c)) : ∃ xs, x = .ins c xs := by
  unfold kdOf at e
  split at e <;> try (cases e; done)
  · cases Option.some.inj e
    exact ⟨_, rfl⟩
  · split at e <;> cases e
theorem cb_is {b : Bif} (C : Cn X Γ W) (hb : isNm b ≠ "") (ow : ∀ c, Γ.cok c = true → OwnOk Γ c) : CallR X (.builtin "isinstance") (rIs Γ b (.ty (isNm b))) := by
  intro pins s σ H xs us Q I r hq
  obtain ⟨x, L, m, h, a, v, rfl, rh, ra, e, kk⟩ := hq
  obtain ⟨k, r', hk, hr, rfl⟩ := isV_some e
  have plain : (∀ c, k ≠ .own c) → wpAny (model X.prog X.w) X.A (call (.builtin "isinstance") us) (EP X pins σ Q) X.xe s := fun hkk => by
    have ty := ty_kd rh ra hk hkk
    rw [← C.K] at ty
    exact call_isi pins s σ H _ us Q I r ⟨x, _, _, _, r', rfl, .ty _, ty, kit_kd hb hkk hr, kk.now rh rfl⟩
  cases k with
  | own c =>
    obtain ⟨xs, rfl⟩ := kd_ins hk
    obtain ⟨a, dx, vs, us', rfl, q, _, _, _, _, f, _⟩ := ra
    have o := ow c f.1
    obtain ⟨u1, u2, rfl, r1, r2⟩ := vals2 r
    cases (show u1 = Value.ref a from r1)
    cases (show u2 = Value.type _ from r2)
    obtain ⟨us, od, _, _, J⟩ := L2.slAt_get I q
    obtain ⟨rfl, hm⟩ := kd_own hb hr
    have e := o.ty _ hm
    have c1 := o.cls.ic
    have c2 : PySem.W.plainGet Γ.K (Γ.ca c) "__class__" = true := o.cls.pg
    have c3 := o.fc
    have c4 := o.sp
    have c5 := o.tk
    have c6 := o.mro
    rw [← C.K] at e c1 c2 c3 c4 c5 c6
    exact PySem.W.kia_one (OwX.kitx_slt c1 c2 c3 c4 c5 c6) I.kIn J e (fun z => nomatch z) fun tk => ⟨.bl false, H, I.tok _, rfl, kk.now rh rfl⟩
  | _ => exact plain (by simp)
theorem s_is {b : Bif} (C : Cn X Γ W) (hb : isNm b ≠ "") (ow : ∀ c, Γ.cok c = true → OwnOk Γ c) (hg : Gl X "isinstance") (hm : Γ.mg "isinstance" = none) (hg2 : Gl X (isNm b)) (hm2 : Γ.mg (isNm b) = none) (ha : PE X e (tE Γ W ea)) (hst : isStar e = false) :
    PE X (.Call (.Name "isinstance" p) [e, .Name (isNm b) p2] [] pos) (tE Γ W fun env h => bnd (bnd (ea env h) fun x h => bnd (.ok [] h) fun xs h => .ok (x :: xs) h) fun xs h => lift (bifV b h xs) h) := by
  rw [← C.mg] at hm hm2
  have ht : PE X (.Name (isNm b) p2) (tC (.ty (isNm b))) := by
    cases b <;> first | exact absurd rfl hb | exact pe_bltn (u := .type _) hg2 hm2 (by decide +kernel) rfl (by decide) (by decide)
  refine pe_imp (pe_callB (cb_is C hb ow) hg hm PyProof.Rows.boot_isinstance (pa_cons ha (pa_cons ht pa_nil rfl) (star_cons hst)) (by decide) (by decide) (star_cons hst) rfl) fun σ H Q hq => ?_
  obtain ⟨L, m, h, env, rh, re, kk⟩ := hq
  dsimp only at kk
  rw [bnd_bnd] at kk
  refine ⟨L, m, h, env, rh, re, kk.bind fun m1 H1 x h1 u g1 rh1 rx k1 => ?_⟩
  have k1 : okG Γ W L m1 H1 σ (fun m' H' => RepV Γ L m' H') (lift (bifV b h1 [x]) h1) Q := k1
  obtain ⟨z, ez, kz⟩ := k1.lift
  have ez : isV b h1 x = some z := by
    cases b <;> first | exact absurd rfl hb | exact ez
  exact ⟨u, L, m1, h1, x, z, rfl, rh1, rx, ez, kz⟩
end
end Mi
set_option Elab.async false
set_option linter.all false
set_option maxRecDepth 100000
set_option maxHeartbeats 4000000
namespace Mi
open PySem PySem.Spec PyProof.Rows L2 HT
section
variable {prog : Program} {w : World} {A : Around} {E : Value → Shared → Prop} {s : Shared}
theorem rev_adjust (n : Nat) : Builtin.Slice.sliceAdjust none none (-1) (n : Int) = ((n : Int) - 1, -1) := by
  unfold Builtin.Slice.sliceAdjust
  simp
theorem rev_places (n : Nat) : Builtin.Slice.slicePlaces ((n : Int) - 1) (-1) (-1) = n := by
  unfold Builtin.Slice.slicePlaces
  simp only [show ¬ ((-1 : Int) > 0) by omega, if_false]
  by_cases h : (n : Int) - 1 > -1
  · rw [if_pos h]
    have : ((n : Int) - 1 - -1 - 1) / (- -1) = (n : Int) - 1 := by
      rw [show (- -1 : Int) = 1 by decide, Int.ediv_one]
      omega
    rw [this]
    omega
  · rw [if_neg h]
    omega
theorem rev_applied {sl : Addr} {vs : Value} {n : Nat} {Q : Int × Int × Nat → Shared → Prop} (hs : s.heap.IsSliceOf sl .none .none vs) (ps : IsPart vs (some (-1))) (h : Q ((n : Int) - 1, -1, n) s) :
    wpAny (model prog w) A (Builtin.Slice.sliceApplied (.ref sl) (pure (n : Int))) Q E s := by
  obtain ⟨os, hos, hcs, hds⟩ := id hs
  unfold Builtin.Slice.sliceApplied Builtin.Slice.sliceFields
  refine wpAny_bind (wpAny_bind (wpAny_field hos hds (x := .none) rfl (wpAny_bind (wpAny_field hos hds (x := .none) rfl (wpAny_bind (wpAny_field hos hds (x := vs) rfl (wpAny_pure ?_)))))))
  refine wpAny_bind (slicePart_ ps ?_)
  show wpAny _ _ (if ((-1 : Int) == 0) = true then _ else _) _ _ s
  rw [if_neg (by decide)]
  refine wpAny_bind (slicePart_none (wpAny_bind (slicePart_none (wpAny_bind (wpAny_pure ?_)))))
  show wpAny _ _ (match Builtin.Slice.sliceAdjust none none (-1) (n : Int) with | (lo, hi) => pure (lo, (-1 : Int), Builtin.Slice.slicePlaces lo hi (-1))) _ _ s
  rw [rev_adjust]
  show wpAny _ _ (pure ((n : Int) - 1, (-1 : Int), Builtin.Slice.slicePlaces ((n : Int) - 1) (-1) (-1))) _ _ s
  rw [rev_places]
  exact wpAny_pure h
theorem rev_pick (xs : Array Value) : ((List.range xs.size).filterMap fun (m : Nat) => xs[(((xs.size : Int) - 1) + (m : Int) * (-1)).toNat]?).toArray = xs.toList.reverse.toArray := by
  rw [← PySem.W.krv_pick]
  unfold slicePick
  rw [PySem.W.krv_bounds]
  show _ = ((sliceRange ((xs.size : Int) - 1) (-1) (-1)).filterMap (xs[·]?)).toArray
  rw [PySem.W.krv_sliceRange, List.filterMap_map]
  congr 2
  funext m
  have e1 : (((xs.size : Int) - 1) + (m : Int) * (-1)).toNat = xs.size - 1 - m := by omega
  rw [e1]
  rfl
theorem rev_tuple {t sl : Addr} {items : Array Value} {vs : Value} {Q : Value → Shared → Prop} (ht : IsTup s.heap t items) (hs : s.heap.IsSliceOf sl .none .none vs) (ps : IsPart vs (some (-1)))
    (h : Q (.ref s.heap.objs.size) { s with heap := s.heap.push { cls := .type "tuple", data := .seq items.toList.reverse.toArray } }) (hsz : items.size ≤ sizeLine) : wpAny (model prog w) A (getItem (.ref t) (.ref sl)) Q E s := by
  have htake : sizeOk (.seq items.toList.reverse.toArray) := by
    show items.toList.reverse.toArray.size ≤ sizeLine
    rw [List.size_toArray, List.length_reverse, Array.length_toList]
    exact hsz
  obtain ⟨os, hos, hcs, hds⟩ := id hs
  have hTs : s.TypeIs (.ref sl) "slice" := ⟨os, hos, hcs⟩
  unfold getItem
  try with_reducible refine wpAny_holding ?_
  first | refine wpAny_bind (wpAny_pure ?_) | skip
  refine wpAny_bind (wpAny_sequenceKey ht.typeIs (by decide) ?_)
  refine wpAny_bind (wpAny_callSpecial?_slot (name := Str.ofString "__getitem__") ht.typeIs PyProof.Rows.slot_tuple_getitem
    (wpAny_call_entry PyProof.Rows.slot_tuple_getitem ht.typeIs entry_tuple_getitem ?_ (args_tuple_getitem _ _)))
  show wpAny _ _ (Builtin.Tuple.tupleItemsOf (.ref t) >>= _) _ _ s
  refine wpAny_bind (tupleItemsOf_ ht ?_)
  refine wpAny_bind (wpAny_typeOf hTs ?_)
  rw [if_pos (by decide)]
  refine wpAny_bind (rev_applied hs ps ?_)
  have hno : ¬ ((((items.size : Int) - 1) == 0 && (-1 : Int) == 1 && items.size == items.size) = true) := by
    rw [show ((-1 : Int) == 1) = false by decide, Bool.and_false, Bool.false_and]
    exact Bool.false_ne_true
  show wpAny _ _ (if (((items.size : Int) - 1) == 0 && (-1 : Int) == 1 && items.size == items.size) = true then _ else _) _ _ s
  rw [if_neg hno, rev_pick]
  first
    | exact wpAny_bind (m := Builtin.Tuple.tupleExact _) (wpAny_newObj_type (wpAny_pure ⟨_, rfl, wpAny_pure h⟩) htake)
    | exact wpAny_bind (m := Builtin.Tuple.tupleExact _) (wpAny_newObj_type (wpAny_bind (wpAny_pure (wpAny_pure ⟨_, rfl, wpAny_pure h⟩))) htake)
    | exact wpAny_bind (wpAny_bind (m := Builtin.Tuple.tupleExact _) (wpAny_newObj_type (wpAny_pure (wpAny_pure ⟨_, rfl, wpAny_pure h⟩)) htake))
    | exact wpAny_bind (wpAny_bind (m := Builtin.Tuple.tupleExact _) (wpAny_newObj_type (wpAny_pure ⟨_, rfl, wpAny_pure h⟩) htake))
end
section
variable {X : Cx} {Γ : Gm} {W : WX} {e a b : Expr} {pos p p1 p2 p3 : Pos} {ea eb : Env → Hh → R Vl}
def tRevT (K : PySem.W.Frag) (te : TE) : TE := fun σ H Q => te σ H fun x H1 => ∃ a xs, x = .ref a ∧ SqT K H1 a xs ∧ ∀ p, H1 p = none → Q (.ref p) (upd H1 p (.tup xs.reverse))
theorem pe_revT {te : TE} {k : Nat} (he : PE X e te) : PE X (.Subscript e (.Slice none none (some (.UnaryOp .USub (.Constant (.int 1) k p1) p2)) p3) pos) (tRevT X.K te) := by
  refine ⟨fun pins s σ H Q I h => ?_⟩
  refine Subscript_ (thn (he.run pins s σ H _ I h) fun v s1 ⟨x, H1, I1, r1, q1⟩ => ?_)
  obtain ⟨a, xs, ex, hx, q⟩ := q1
  subst ex
  cases r1
  have hst : PO X (some (.UnaryOp .USub (.Constant (.int 1) k p1) p2)) (tPart (tUn (rU fun i => .int (-i)) (tC (.int 1)))) := po_some (pe_un un_neg pe_int)
  refine wpAny_Slice (thn (po_none.run pins s1 σ H1 (fun o H2 => o = none ∧ H2 = H1) I1 ⟨rfl, rfl⟩) fun vl s2 ⟨l, H2, I2, pl, el, e2⟩ => ?_)
  subst el e2
  refine thn (po_none.run pins s2 σ H2 (fun o H3 => o = none ∧ H3 = H2) I2 ⟨rfl, rfl⟩) fun vu s3 ⟨u, H3, I3, pu, eu, e3⟩ => ?_
  subst eu e3
  refine thn (hst.run pins s3 σ H3 (fun o H4 => o = some (-1) ∧ H4 = H3) I3 ⟨1, rfl, -1, rfl, rfl, rfl⟩) fun vs s4 ⟨o, H4, I4, ps, eo, e4⟩ => ?_
  subst eo e4
  cases pl
  cases pu
  have I5 : Inv X pins σ H4 { s4 with heap := s4.heap.push { cls := .type "slice", data := .fields #[.none, .none, vs] } } := I4.kept (t' := s4.toks) fun b ob q => Heap.get?_push_of_some _ q
  obtain ⟨its, r, ht, hz⟩ := I5.tuple hx
  have hlen := r.length
  show wpAny (model X.prog X.w) X.A (subscriptTail e (.Slice none none (some (.UnaryOp .USub (.Constant (.int 1) k p1) p2)) p3) (.ref a) (.ref s4.heap.objs.size)) (EP X pins σ Q) X.xe { s4 with heap := s4.heap.push { cls := .type "slice", data := .fields #[.none, .none, vs] } }
  refine tail_any (ops := [.ref a, .ref s4.heap.objs.size]) ht.typeIs PyProof.Rows.slot_tuple_getitem.lookup ?_ (by with_unfolding_all rfl)
  refine rev_tuple ht (Heap.IsSliceOf.new _ .none .none vs) ps ?_ (by rw [List.size_toArray]; omega)
  refine ⟨.ref _, _, I5.laid (t' := s4.toks) (o := .tup xs.reverse) (fun b ob q => Heap.get?_push_of_some _ q) (Nat.le_refl _) ?_, rfl, q _ (I5.hok.fresh (Nat.le_refl _))⟩
  exact ⟨by rw [List.length_reverse]; exact hz, _, r.reverse, _, Heap.get?_push_size _ rfl, rfl, _, rfl⟩
theorem RepL.reverse {L m : List Addr} {H : Hp} : ∀ {xs : List Vl} {us : List V}, RepL Γ L m H xs us → RepL Γ L m H xs.reverse us.reverse
  | [], [], _ => trivial
  | x :: xs, u :: us, h => by
    rw [List.reverse_cons, List.reverse_cons]
    exact (RepL.reverse h.2).append ⟨h.1, trivial⟩
  | [], _ :: _, h => h.elim
  | _ :: _, [], h => h.elim
theorem s_rev {k : Nat} (C : Cn X Γ W) (ha : PE X e (tE Γ W ea)) : PE X (.Subscript e (.Slice none none (some (.UnaryOp .USub (.Constant (.int 1) k p1) p2)) p3) pos) (tE Γ W fun env h => bnd (ea env h) fun x h => lift (revW h x) h) := by
  refine ⟨fun pins s σ H Q I hq => ?_⟩
  obtain ⟨L, m, h, env, rh, re, kk⟩ := hq
  dsimp only at kk
  have asL : (∀ m1 H1 x h1 u, Grow m H m1 H1 → RepH Γ L m1 h1 H1 → RepV Γ L m1 H1 x u → okG Γ W L m1 H1 σ (fun m' H' => RepV Γ L m' H') (lift (revW h1 x) h1) Q → ∃ a xs, u = .ref a ∧ SqL X.K H1 a xs ∧ ∀ p, H1 p = none → Q (.ref p) (upd H1 p (.lst xs.reverse))) → wpAny (model X.prog X.w) X.A (eval (.Subscript e (.Slice none none (some (.UnaryOp .USub (.Constant (.int 1) k p1) p2)) p3) pos) X.env) (EP X pins σ Q) X.xe s := fun st =>
    (pe_revL ha).run pins s σ H Q I ⟨L, m, h, env, rh, re, kk.bind st⟩
  have asT : (∀ m1 H1 x h1 u, Grow m H m1 H1 → RepH Γ L m1 h1 H1 → RepV Γ L m1 H1 x u → okG Γ W L m1 H1 σ (fun m' H' => RepV Γ L m' H') (lift (revW h1 x) h1) Q → ∃ a xs, u = .ref a ∧ SqT X.K H1 a xs ∧ ∀ p, H1 p = none → Q (.ref p) (upd H1 p (.tup xs.reverse))) → wpAny (model X.prog X.w) X.A (eval (.Subscript e (.Slice none none (some (.UnaryOp .USub (.Constant (.int 1) k p1) p2)) p3) pos) X.env) (EP X pins σ Q) X.xe s := fun st =>
    (pe_revT ha).run pins s σ H Q I ⟨L, m, h, env, rh, re, kk.bind st⟩
  by_cases hT : ∃ xs h1, ea env h = .ok (.tup xs) h1
  · obtain ⟨xs, h1, e1⟩ := hT
    rw [e1] at kk
    refine (pe_revT ha).run pins s σ H Q I ⟨L, m, h, env, rh, re, ?_⟩
    rw [e1]
    intro m1 H1 u g1 rh1 rx
    obtain ⟨a, us, rfl, q, r⟩ := rx
    have k1 : okG Γ W L m1 H1 σ (fun m' H' => RepV Γ L m' H') (.ok (.tup xs.reverse) h1) Q := okG.later kk g1 rh1
    rw [C.K]
    exact ⟨a, us, rfl, q, fun p hp => okV.newT k1 rh1 hp r.reverse⟩
  · refine (pe_revL ha).run pins s σ H Q I ⟨L, m, h, env, rh, re, ?_⟩
    cases e1 : ea env h with
    | exc c p h1 =>
      rw [e1] at kk
      exact kk
    | bad =>
      rw [e1] at kk
      exact kk
    | ok x h1 =>
      rw [e1] at kk
      intro m1 H1 u g1 rh1 rx
      have k1 : okG Γ W L m1 H1 σ (fun m' H' => RepV Γ L m' H') (lift (revW h1 x) h1) Q := okG.later kk g1 rh1
      obtain ⟨z, ez, kz⟩ := k1.lift
      rw [C.K]
      unfold revW at ez
      split at ez
      · rename_i xs
        exact absurd ⟨xs, h1, e1⟩ hT
      · split at ez
        · rename_i xs hx
          cases Option.some.inj ez
          split at hx
          · rename_i ys
            cases Option.some.inj hx
            obtain ⟨a, us, rfl, q, r⟩ := rx
            exact ⟨a, us, rfl, (scr_sq ⟨_, rh1⟩ q).1, fun p hp => okV.newL kz rh1 hp r.reverse⟩
          · obtain ⟨a, us, rfl, q, r⟩ := lstOf_rep rh1 rx hx
            exact ⟨a, us, rfl, SqL.of q, fun p hp => okV.newL kz rh1 hp r.reverse⟩
        · cases ez
theorem RepH.dnew {L m : List Addr} {H : Hp} {h : Hh} {p : Addr} (r : RepH Γ L m h H) (hp : H p = none) : RepH Γ L (m ++ [p]) (h ++ [.dct []]) (upd H p (.dK [])) where
  len := by rw [List.length_append, List.length_append, r.len]; rfl
  nd := by
    rw [List.nodup_append]
    refine ⟨r.nd, by simp, fun a ha b hb z => ?_⟩
    rw [List.mem_singleton.mp hb] at z
    exact (r.out hp).1 (z ▸ ha)
  ap := fun a ha => by
    rcases List.mem_append.mp ha with ha | ha
    · exact r.ap a ha
    · rw [List.mem_singleton.mp ha]
      exact (r.out hp).2
  ob := fun i a o e1 e2 => by
    by_cases hi : i < m.length
    · rw [List.getElem?_append_left hi] at e1
      rw [List.getElem?_append_left (by rw [← r.len]; exact hi)] at e2
      have x := r.ob i a o e1 e2
      obtain ⟨v, hv, _⟩ := x.there
      exact x.grow (Grow.alloc hp) (upd_ne (ne_of_none hv hp))
    · have hm : i = m.length := by
        have := (List.getElem?_eq_some_iff.mp e1).1
        rw [List.length_append, List.length_singleton] at this
        omega
      subst hm
      rw [List.getElem?_append_right (Nat.le_refl _), Nat.sub_self] at e1
      rw [r.len, List.getElem?_append_right (Nat.le_refl _), Nat.sub_self] at e2
      cases e1
      cases e2
      exact ⟨[], upd_same, trivial⟩
  res := fun a ha => by
    obtain ⟨us, e⟩ := r.res a ha
    exact ⟨us, by rw [upd_ne (ne_of_none e hp)]; exact e⟩
theorem s_dnew : PE X (.Dict [] [] pos) (tE Γ W fun _ h => .ok (.ref h.length) (h ++ [.dct []])) := by
  refine pe_imp pe_dnewK fun σ H Q hq => ?_
  obtain ⟨L, m, h, env, rh, re, k⟩ := hq
  intro p hp
  refine k (m ++ [p]) _ (.ref p) (Grow.alloc hp) (rh.dnew hp) ⟨p, rfl, ?_⟩
  rw [← rh.len, List.getElem?_append_right (Nat.le_refl _), Nat.sub_self]
  rfl
theorem CallR.or {f : Value} {r r' : List V → Hp → VK → Prop} (h : CallR X f r) (h' : CallR X f r') : CallR X f (fun xs H Q => r xs H Q ∨ r' xs H Q) := by
  intro pins s σ H xs us Q I rr q
  rcases q with q | q
  · exact h pins s σ H xs us Q I rr q
  · exact h' pins s σ H xs us Q I rr q
theorem keys_rep {L m : List Addr} {H : Hp} : ∀ {kvs : List (Vl × Vl)} {us : List (Key × V)} {ks : List Int}, RepKs Γ L m H kvs us → intsOf (kvs.map (·.1)) = some ks → us.map (·.1) = ks.map Sum.inl
  | [], [], ks, _, e => by cases Option.some.inj e; rfl
  | (a, x) :: r, (k, u) :: us, ks, h, e => by
    obtain ⟨h1, _, h3⟩ := h
    cases a with
    | int i =>
      have e' : (match intsOf (r.map (·.1)) with | some l => some (i :: l) | none => none) = some ks := e
      split at e'
      · rename_i l hl
        cases Option.some.inj e'
        rw [List.map_cons, List.map_cons, keys_rep h3 hl]
        cases (show k = .inl i from h1)
        rfl
      · cases e'
    | _ => cases e
  | [], _ :: _, _, h, _ => h.elim
  | _ :: _, [], _, h, _ => h.elim
def srtR2 (rev : Bool) (x : Vl) (h : Hh) : R (List Vl) := match lstOf h x with
  | some l => match intsOf l with
    | some l => match rev with
      | true => .ok ((sortI l).reverse.map .int) h
      | false => .ok ((sortI l).map .int) h
    | none => .bad
  | none => match dkeys h x with
    | some ks => match rev with
      | true => .bad
      | false => match decide (ks.length < 64) with
        | true => .ok ((sortI ks).map .int) h
        | false => .bad
    | none => .bad
theorem f_sorted2 (C : Cn X Γ W) (hg : Gl X "sorted") (hm : Γ.mg "sorted" = none) (ha : PE X e (tE Γ W ea)) (hst : isStar e = false) :
    PE X (.Call (.Name "sorted" p) [e] [] pos) (tF Γ W fun env h => bnd (ea env h) (srtR2 false)) := by
  rw [← C.mg] at hm
  refine pe_imp (pe_callB (CallR.or (cb_sorted (Γ := Γ)) (call_sortedDI C.calm)) hg hm PyProof.Rows.boot_sorted (pa_cons ha pa_nil (star_cons hst)) (by decide) (by decide) (star_cons hst) rfl) fun σ H Q hq => ?_
  obtain ⟨L, m, h, env, rh, re, kk⟩ := hq
  refine ⟨L, m, h, env, rh, re, okF.bind rh kk fun m1 H1 x h1 u g1 rh1 rx k1 => ?_⟩
  unfold srtR2 at k1
  split at k1
  · rename_i l hl
    split at k1
    · rename_i l2 hl2
      exact .inl ⟨L, m1, h1, x, u, l, l2, rfl, rh1, rx, hl, hl2, k1⟩
    · exact k1.elim
  · split at k1
    · rename_i ks hk
      dsimp only at k1
      split at k1
      · rename_i hd
        unfold dkeys at hk
        split at hk
        · rename_i n
          obtain ⟨a, rfl, q⟩ := rx
          split at hk
          · rename_i kvs hkv
            obtain ⟨us, e2, rr⟩ := rh1.at_ q hkv
            refine .inr ⟨a, us, ks, rfl, Rd.of e2, keys_rep rr hk, of_decide_eq_true hd, fun ys p pm so hp => ?_⟩
            have := sortI_one pm so
            subst this
            exact okN.new k1 rh1 hp ints_map
          · cases hk
        · cases hk
      · exact k1.elim
    · exact k1.elim
theorem f_sortedR2 {j : Nat} {p2 p3 : Pos} (C : Cn X Γ W) (hg : Gl X "sorted") (hm : Γ.mg "sorted" = none) (ha : PE X e (tE Γ W ea)) (hst : isStar e = false) :
    PE X (.Call (.Name "sorted" p) [e] [⟨some "reverse", .Constant (.bool true) j p2, p3⟩] pos) (tF Γ W fun env h => bnd (ea env h) (srtR2 true)) := by
  refine pe_imp (f_sortedR C hg hm ha hst) fun σ H Q hq => ?_
  obtain ⟨L, m, h, env, rh, re, kk⟩ := hq
  refine ⟨L, m, h, env, rh, re, ?_⟩
  show okF Γ W L m H σ (bnd (ea env h) (srtR true)) Q
  dsimp only at kk
  cases hr : ea env h with
  | bad => rw [hr] at kk; exact kk
  | exc c p h1 => rw [hr] at kk; exact kk
  | ok x h1 =>
    rw [hr] at kk
    replace kk : okF Γ W L m H σ (srtR2 true x h1) Q := kk
    show okF Γ W L m H σ (srtR true x h1) Q
    unfold srtR2 at kk
    unfold srtR
    split at kk
    · rename_i l hl
      first | exact kk | (rw [hl]; exact kk)
    · split at kk
      · exact kk.elim
      · exact kk.elim
theorem rgV_rep {L m : List Addr} {H : Hp} {a b : Int} : RepL Γ L m H (rangeL (b - a).toNat a 1) (rgV a b) := by
  refine RepL.of_get (by rw [rangeL_length, rgV_length]) fun i x v h1 h2 => ?_
  have hi : i < (b - a).toNat := by
    have := (List.getElem?_eq_some_iff.mp h1).1
    rwa [rangeL_length] at this
  rw [rangeL_get _ _ _ _ hi] at h1
  cases h1
  unfold rgV at h2
  rw [List.getElem?_map, List.getElem?_range hi] at h2
  cases h2
  show V.int _ = V.int _
  rw [Int.mul_one]
theorem f_lrg1 {e1 : Expr} {p2 pos2 : Pos} (C : Cn X Γ W) (hg : Gl X "list") (hm : Γ.mg "list" = none) (hg2 : Gl X "range") (hm2 : Γ.mg "range" = none) (ha : PE X a (tE Γ W ea)) (hst : isStar a = false) :
    PE X (.Call (.Name "list" p) [.Call (.Name "range" p2) [a] [] pos2] [] pos) (tF Γ W fun env h => bnd (bnd (ea env h) fun x h => bnd (.ok [] h) fun xs h => .ok (x :: xs) h) fun xs h => lift (rngL xs) h) := by
  rw [← C.mg] at hm hm2
  refine pe_imp (pe_listRg C.calm hg hm (prg_1 hg2 hm2 ha (star_cons hst)) rfl) fun σ H Q hq => ?_
  obtain ⟨L, m, h, env, rh, re, k⟩ := hq
  dsimp only at k
  rw [bnd_bnd] at k
  refine ⟨L, m, h, env, rh, re, okF.bind rh k fun m1 H1 x h1 u g1 rh1 rx k1 => ?_⟩
  replace k1 : okF Γ W L m1 H1 σ (lift (rngL [x]) h1) Q := k1
  obtain ⟨z, ez, kz⟩ := k1.lift
  cases x with
  | int n =>
    cases (show u = .int n from rx)
    replace ez : (if n.natAbs < 1000000 then some (rangeL n.toNat 0 1) else none) = some z := ez
    split at ez
    · rename_i hn
      cases Option.some.inj ez
      refine ⟨n, rfl, ⟨by omega, by omega, by omega, by omega, by omega⟩, fun q hq => okN.new kz rh1 hq ?_⟩
      have := rgV_rep (Γ := Γ) (L := L) (m := m1) (H := H1) (a := 0) (b := n)
      rw [Int.sub_zero] at this
      exact this
    · cases ez
  | _ => cases ez
theorem f_lrg2 {p2 pos2 : Pos} (C : Cn X Γ W) (hg : Gl X "list") (hm : Γ.mg "list" = none) (hg2 : Gl X "range") (hm2 : Γ.mg "range" = none) (ha : PE X a (tE Γ W ea)) (hb : PE X b (tE Γ W eb)) (hst : noStars [a, b] = true) :
    PE X (.Call (.Name "list" p) [.Call (.Name "range" p2) [a, b] [] pos2] [] pos) (tF Γ W fun env h => bnd (bnd (ea env h) fun x h => bnd (bnd (eb env h) fun x h => bnd (.ok [] h) fun xs h => .ok (x :: xs) h) fun xs h => .ok (x :: xs) h) fun xs h => lift (rngL xs) h) := by
  rw [← C.mg] at hm hm2
  obtain ⟨s1, s2⟩ := noStars_cons hst
  obtain ⟨s3, s4⟩ := noStars_cons s2
  refine pe_imp (pe_listRg C.calm hg hm (prg_2 hg2 hm2 ha hb (star_cons s1) (star_cons s3) (noStars_any s2)) rfl) fun σ H Q hq => ?_
  obtain ⟨L, m, h, env, rh, re, k⟩ := hq
  dsimp only at k
  rw [bnd_bnd] at k
  refine ⟨L, m, h, env, rh, re, okF.bind rh k fun m1 H1 x h1 u g1 rh1 rx k1 => ?_⟩
  rw [bnd_bnd, bnd_bnd] at k1
  refine ⟨L, m1, h1, env, rh1, re.grow g1, okF.bind rh1 k1 fun m2 H2 y h2 v g2 rh2 ry k2 => ?_⟩
  replace k2 : okF Γ W L m2 H2 σ (lift (rngL [x, y]) h2) Q := k2
  obtain ⟨z, ez, kz⟩ := k2.lift
  unfold rngL at ez
  split at ez
  · rename_i z
    cases z
  · rename_i i j z
    cases z
    cases (show u = .int _ from rx)
    cases (show v = .int _ from ry)
    split at ez
    · rename_i h1
      split at ez
      · rename_i h2
        cases Option.some.inj ez
        exact ⟨_, _, rfl, rfl, ⟨by omega, by omega, by omega, by omega, by omega⟩, fun q hq => okN.new kz rh2 hq rgV_rep⟩
      · cases ez
    · cases ez
  · cases ez
def trgR (xs : List Vl) (h : Hh) : R Vl := match rngL xs with
  | some l => .ok (.tup l) h
  | none => .bad
theorem s_trg1 {p2 pos2 : Pos} (C : Cn X Γ W) (hg : Gl X "tuple") (hm : Γ.mg "tuple" = none) (hg2 : Gl X "range") (hm2 : Γ.mg "range" = none) (ha : PE X a (tE Γ W ea)) (hst : isStar a = false) :
    PE X (.Call (.Name "tuple" p) [.Call (.Name "range" p2) [a] [] pos2] [] pos) (tE Γ W fun env h => bnd (bnd (ea env h) fun x h => bnd (.ok [] h) fun xs h => .ok (x :: xs) h) trgR) := by
  rw [← C.mg] at hm hm2
  refine pe_imp (pe_tupRg C.calm hg hm (prg_1 hg2 hm2 ha (star_cons hst)) rfl) fun σ H Q hq => ?_
  obtain ⟨L, m, h, env, rh, re, k⟩ := hq
  dsimp only at k
  rw [bnd_bnd] at k
  refine ⟨L, m, h, env, rh, re, k.bind fun m1 H1 x h1 u g1 rh1 rx k1 => ?_⟩
  replace k1 : okG Γ W L m1 H1 σ (fun m' H' => RepV Γ L m' H') (trgR [x] h1) Q := k1
  unfold trgR at k1
  split at k1
  · rename_i z ez
    cases x with
    | int n =>
      cases (show u = .int n from rx)
      replace ez : (if n.natAbs < 1000000 then some (rangeL n.toNat 0 1) else none) = some z := ez
      split at ez
      · rename_i hn
        cases Option.some.inj ez
        refine ⟨n, rfl, ⟨by omega, by omega, by omega, by omega, by omega⟩, fun q hq => okV.newT k1 rh1 hq ?_⟩
        have := rgV_rep (Γ := Γ) (L := L) (m := m1) (H := H1) (a := 0) (b := n)
        rw [Int.sub_zero] at this
        exact this
      · cases ez
    | _ => cases ez
  · exact k1.elim
end
end Mi
set_option Elab.async false
set_option linter.all false
set_option maxRecDepth 100000
set_option maxHeartbeats 4000000
namespace Mi
open PySem PySem.Spec PyProof.Rows L2
structure Sc where
  N : List Str
  sc : Scope
  fn : Option Scope
structure Nm where
  fns : List (Str × Nat)
  gvs : List (Str × Nat)
def Sc.fnB (S : Sc) (x : Str) : Bool := match S.fn with
  | none => true
  | some s => s.names.lookup x == some .cell
def Sc.blk (S : Sc) (scope : Scope) : Sc := ⟨S.N, relS scope S.sc, some scope⟩
def visB (S : Sc) (x : Str) : Bool := match S.sc.names.lookup x with
  | some .local => true
  | some .cell => true
  | some .free => true
  | _ => false
def locB (S : Sc) (x : Str) : Bool := match S.sc.names.lookup x with
  | some .local => true
  | some .cell => S.fnB x
  | _ => false
def glB (S : Sc) (x : Str) : Bool := match S.sc.names.lookup x with
  | some .globalImplicit => true
  | _ => false
def plB (S : Sc) (x : Str) : Bool := match S.sc.names.lookup x with
  | some .local => true
  | _ => false
def okNm (x : Str) : Bool := !(x == ("__debug__" : Str)) && !(x == ("__classdict__" : Str))
def slB (S : Sc) (i : Nat) (x : Str) : Bool := decide (S.N[i]? = some x)
def opB (o : BO) (p : Operator) : Bool := match o, p with
  | .add, .Add => true | .sub, .Sub => true | .mul, .Mult => true | .fdiv, .FloorDiv => true | .mod, .Mod => true | .pow, .Pow => true
  | .shl, .LShift => true | .shr, .RShift => true | .and, .BitAnd => true | .or, .BitOr => true | .xor, .BitXor => true
  | _, _ => false
def cpB (o : CO) (p : CmpOp) : Bool := match o, p with
  | .eq, .Eq => true | .ne, .NotEq => true | .lt, .Lt => true | .le, .LtE => true | .gt, .Gt => true | .ge, .GtE => true
  | .is, .Is => true | .isnot, .IsNot => true | .isin, .In => true | .notin, .NotIn => true
  | _, _ => false
theorem opB_eq {o : BO} {p : Operator} (h : opB o p = true) : p = bo o := by cases o <;> cases p <;> first | rfl | (cases h)
theorem cpB_eq {o : CO} {p : CmpOp} (h : cpB o p = true) : p = co o := by cases o <;> cases p <;> first | rfl | (cases h)
def tgN (S : Sc) (i : Nat) (t : Expr) : Bool := match t with
  | .Name x _ => slB S i x && locB S x
  | _ => false
def chkTs (S : Sc) : List Nat → List Expr → Bool
  | [], [] => true
  | i :: is, t :: ts => tgN S i t && chkTs S is ts
  | _, _ => false
def chkT (S : Sc) (tg : Tg) (e : Expr) : Bool := match tg with
  | .n i => tgN S i e
  | .t is => match e with
    | .Tuple ts _ _ => chkTs S is ts
    | _ => false
def noSet : Expr → Bool
  | .Set _ _ _ => false
  | _ => true
theorem noSet_fold {e : Expr} {env : PySem.Env} (h : noSet e = true) : ∀ x, foldedSetIterable e env x = pure x := by
  intro x
  cases e <;> first | rfl | (cases h)
def plainT : Expr → Bool
  | .UnaryOp .Not _ _ => false
  | .BoolOp _ _ _ => false
  | .IfExp _ _ _ _ => false
  | .Compare _ _ _ _ => false
  | _ => true
theorem plainT_is {e : Expr} {env : PySem.Env} (h : plainT e = true) : ∀ whole, isTrue e env whole = (do let v ← whole; standAt e.pos; holding [v] (truthy v)) := by
  intro w
  cases e <;> first | rfl | (cases h; done) | skip
  rename_i op a pos
  cases op <;> first | rfl | (cases h)
theorem plainIx_of {b : Expr} (h : isSlice b = false) : PlainIx b := by
  intro o i
  cases b <;> first | rfl | (cases h)
def ownP (S : Sc) (own : List Nat) : List (Str × Nat) := own.filterMap fun i => match S.N[i]? with
  | some x => some (x, i)
  | none => none
def tgIn (tg : Tg) (own : List Nat) : Bool := (slots tg).all fun i => own.contains i
mutual
def chkE (D : Nm) (S : Sc) : Ex → Expr → Bool
  | .var i => fun e => match e with
    | .Name x _ => slB S i x && visB S x && okNm x
    | _ => false
  | .int i => fun e => match e with
    | .Constant (.int j) _ _ => decide (i = j)
    | _ => false
  | .bl i => fun e => match e with
    | .Constant (.bool j) _ _ => decide (i = j)
    | _ => false
  | .non => fun e => match e with
    | .Constant .none _ _ => true
    | _ => false
  | .str s => fun e => match e with
    | .Constant (.str x) _ _ => decide (x = ⟨s.toArray⟩)
    | _ => false
  | .gl g => fun e => match e with
    | .Name x _ => glB S x && decide (D.gvs.lookup x = some g) && okNm x
    | _ => false
  | .bin o a b => fun e => match e with
    | .BinOp a' p b' _ => opB o p && chkE D S a a' && chkE D S b b'
    | _ => false
  | .neg a => fun e => match e with
    | .UnaryOp .USub a' _ => chkE D S a a'
    | _ => false
  | .cmp o a b => fun e => match e with
    | .Compare a' [p] [b'] _ => cpB o p && chkE D S a a' && chkE D S b b' && !behindInMarks (co o) b'
    | _ => false
  | .chain o p a b c => fun e => match e with
    | .Compare a' [o', p'] [b', c'] _ => cpB o o' && cpB p p' && chkE D S a a' && chkE D S b b' && chkE D S c c' && !lastMarks [co o, co p] [b', c']
    | _ => false
  | .and a b => fun e => match e with
    | .BoolOp .And [a', b'] _ => chkE D S a a' && chkE D S b b'
    | .BoolOp .And (a' :: b' :: c' :: r) pos => chkE D S a a' && chkE D S b (.BoolOp .And (b' :: c' :: r) pos)
    | _ => false
  | .or a b => fun e => match e with
    | .BoolOp .Or [a', b'] _ => chkE D S a a' && chkE D S b b'
    | .BoolOp .Or (a' :: b' :: c' :: r) pos => chkE D S a a' && chkE D S b (.BoolOp .Or (b' :: c' :: r) pos)
    | _ => false
  | .not a => fun e => match e with
    | .UnaryOp .Not a' _ => chkE D S a a'
    | _ => false
  | .ite c a b => fun e => match e with
    | .IfExp c' a' b' _ => chkE D S c c' && chkE D S a a' && chkE D S b b'
    | _ => false
  | .tup as => fun e => match e with
    | .Tuple es _ _ => chkA D S as es
    | _ => false
  | .fz f => fun e => chkF D S f e && plainT e
  | .th f => fun e => chkF D S f e && plainT e
  | .sub a i => fun e => match e with
    | .Subscript a' i' _ => chkE D S a a' && chkE D S i i' && !isSlice i'
    | _ => false
  | .slc a lo hi => fun e => match e with
    | .Subscript a' (.Slice lo' hi' none _) _ => chkE D S a a' && chkO D S lo lo' && chkO D S hi hi'
    | _ => false
  | .call f as => fun e => match e with
    | .Call (.Name x _) es [] _ => glB S x && decide (D.fns.lookup x = some f) && okNm x && noStars es && chkA D S as es
    | _ => false
  | .callv i as => fun e => match e with
    | .Call (.Name x _) (a :: es) [] _ => slB S i x && visB S x && okNm x && noStars (a :: es) && chkA D S as (a :: es)
    | _ => false
  | .mk _ _ => fun _ => false
  | .bif b as => fun e => match e with
    | .Call (.Name x _) (a :: es) [] _ => (decide (x = Str.ofString (bifNm b)) && decide (bifNm b ≠ "") && glB S x && noStars (a :: es) && chkA D S as (a :: es)) ||
        (match es with
        | [.Name t _] => decide (x = Str.ofString "isinstance") && decide (t = Str.ofString (isNm b)) && decide (isNm b ≠ "") && glB S x && glB S t && !isStar a && chkA D S as [a]
        | _ => false)
    | _ => false
  | .mth t o as => fun e => match e with
    | .Call (.Attribute o' x apos) es [] pos => decide (x = Str.ofString (mthNm t)) && chkE D S o o' && plainBase o' && (apos.endLine == pos.line) && (match t, es with
      | .append, [a] => !isStar a && chkA D S as [a]
      | .extend, [a] => !isStar a && chkA D S as [a]
      | .pop1, [a] => !isStar a && chkA D S as [a]
      | .pop0, [] => chkA D S as []
      | .bitlen, [] => chkA D S as []
      | _, _ => false)
    | _ => false
  | .rev a => fun e => match e with
    | .Subscript a' (.Slice none none (some (.UnaryOp .USub (.Constant (.int 1) _ _) _)) _) _ => chkE D S a a'
    | _ => false
  | .dnew => fun e => match e with
    | .Dict [] [] _ => true
    | _ => false
  | .trg as => fun e => match e with
    | .Call (.Name x _) [.Call (.Name y _) [a] [] _] [] _ => decide (x = Str.ofString "tuple") && decide (y = Str.ofString "range") && glB S x && glB S y && !isStar a && chkA D S as [a]
    | _ => false
  | .attr _ _ => fun _ => false
  | _ => fun _ => false
def chkA (D : Nm) (S : Sc) : Ex → List Expr → Bool
  | .anil => fun es => match es with
    | [] => true
    | _ => false
  | .acons a r => fun es => match es with
    | e :: es => !isStar e && chkE D S a e && chkA D S r es
    | _ => false
  | .astar a r => fun es => match es with
    | .Starred e _ :: es => chkE D S a e && chkA D S r es
    | _ => false
  | _ => fun _ => false
def chkF (D : Nm) (S : Sc) : Ex → Expr → Bool
  | .disp as => fun e => match e with
    | .List es _ => chkA D S as es
    | _ => false
  | .comp own tg it c el => fun e => match e with
    | .ListComp elt [⟨target, iter, ifs, 0⟩] scope _ => decide ((ownP S own).map (·.2) = own) && blkC S.N S.sc scope (ownP S own) && tgIn tg own && noSet iter && chkT (S.blk scope) tg target && chkW D S it target iter && chkC D (S.blk scope) c ifs && chkE D (S.blk scope) el elt
    | _ => false
  | .listof a => fun e => match e with
    | .Call (.Name x _) [a'] [] _ => decide (x = Str.ofString "list") && glB S x && !isStar a' && chkE D S a a'
    | _ => false
  | .srt rev a => fun e => match e with
    | .Call (.Name x _) [a'] [] _ => decide (x = Str.ofString "sorted") && glB S x && !isStar a' && chkE D S a a' && !rev
    | .Call (.Name x _) [a'] [⟨some k, .Constant (.bool true) _ _, _⟩] _ => decide (x = Str.ofString "sorted") && decide (k = Str.ofString "reverse") && glB S x && !isStar a' && chkE D S a a' && rev
    | _ => false
  | .lrg as => fun e => match e with
    | .Call (.Name x _) [.Call (.Name y _) es [] _] [] _ => decide (x = Str.ofString "list") && decide (y = Str.ofString "range") && glB S x && glB S y && noStars es && chkA D S as es && decide (1 ≤ es.length) && decide (es.length ≤ 2)
    | _ => false
  | .cat a b => fun e => match e with
    | .BinOp a' .Add b' _ => chkE D S a a' && chkE D S b b'
    | _ => false
  | .rep a b => fun e => match e with
    | .BinOp a' .Mult b' _ => chkE D S a a' && chkE D S b b'
    | _ => false
  | .slf a lo hi => fun e => match e with
    | .Subscript a' (.Slice lo' hi' none _) _ => chkE D S a a' && chkO D S lo lo' && chkO D S hi hi'
    | _ => false
  | _ => fun _ => false
def chkW (D : Nm) (S : Sc) : Ex → Expr → Expr → Bool
  | .over a => fun _ e => chkE D S a e
  | .range as => fun _ e => match e with
    | .Call (.Name x _) es [] _ => decide (x = Str.ofString "range") && glB S x && noStars es && chkA D S as es && decide (1 ≤ es.length) && decide (es.length ≤ 3)
    | _ => false
  | .enum a => fun t e => match t, e with
    | .Tuple _ _ _, .Call (.Name x _) [a'] [] _ => decide (x = Str.ofString "enumerate") && glB S x && !isStar a' && chkE D S a a'
    | _, _ => false
  | .zip a b => fun t e => match t, e with
    | .Tuple _ _ _, .Call (.Name x _) [a', b'] [] _ => decide (x = Str.ofString "zip") && glB S x && noStars [a', b'] && chkE D S a a' && chkE D S b b'
    | _, _ => false
  | _ => fun _ _ => false
def chkO (D : Nm) (S : Sc) : Ex → Option Expr → Bool
  | .noe => fun o => match o with
    | none => true
    | _ => false
  | .sm a => fun o => match o with
    | some e => chkE D S a e
    | _ => false
  | _ => fun _ => false
def chkC (D : Nm) (S : Sc) : Ex → List Expr → Bool
  | .noe => fun o => match o with
    | [] => true
    | _ => false
  | .sm a => fun o => match o with
    | [e] => chkE D S a e
    | _ => false
  | _ => fun _ => false
end
end Mi
set_option Elab.async false
set_option linter.all false
set_option maxRecDepth 100000
set_option maxHeartbeats 4000000
namespace Mi
open PySem PySem.Spec PyProof.Rows L2
structure Cs (X : Cx) (Γ : Gm) (W : WX) (k : Nat) (S : Sc) : Prop where
  c : Cn X Γ W
  N : X.N = S.N
  sc : X.env.scope = S.sc
  fn : ∀ x, X.fn x = S.fnB x
  hr : Room k X.A
def bNames : List Str := ["len", "abs", "max", "min", "int", "tuple", "sum", "all", "any", "list", "sorted", "range", "enumerate", "zip", "isinstance", "bool", "str"]
structure Lv (Γ : Gm) (G : GT) (D : Nm) (cf : CF) (k : Nat) : Prop where
  fn : ∀ x f, D.fns.lookup x = some f → Γ.mg x = some (.ref (Γ.fa f))
  fi : ∀ f, FnI Γ cf k f
  gv : ∀ x g, D.gvs.lookup x = some g → ∃ v u w, G.gv g = some v ∧ Γ.mg x = some w ∧ RelV u w ∧ ∀ L m H, RepV Γ L m H v u
  nb : ∀ x, x ∈ bNames → Γ.mg x = none
  ow : ∀ c, Γ.cok c = true → OwnOk Γ c
section
variable {X : Cx} {Γ : Gm} {W : WX} {k : Nat} {S : Sc} {x : Str} {i : Nat}
theorem vis_of (C : Cs X Γ W k S) (h : visB S x = true) : Vis X.env.scope x := by
  unfold visB at h
  rw [← C.sc] at h
  unfold Vis
  split at h
  · rename_i e; exact .inl e
  · rename_i e; exact .inr (.inl e)
  · rename_i e; exact .inr (.inr e)
  · cases h
theorem loc_of (C : Cs X Γ W k S) (h : locB S x = true) : Loc X.env.scope x ∧ (X.fn x = true ∨ X.env.scope.names.lookup x = some .local) := by
  unfold locB at h
  rw [← C.sc] at h
  split at h
  · rename_i e; exact ⟨.inl e, .inr e⟩
  · rename_i e; exact ⟨.inr e, .inl (by rw [C.fn]; exact h)⟩
  · cases h
theorem gl_of (C : Cs X Γ W k S) (h : glB S x = true) : Gl X x := by
  unfold glB at h
  rw [← C.sc] at h
  split at h
  · rename_i e; exact e
  · cases h
theorem pl_of (C : Cs X Γ W k S) (h : plB S x = true) : X.env.scope.names.lookup x = some .local := by
  unfold plB at h
  rw [← C.sc] at h
  split at h
  · rename_i e; exact e
  · cases h
theorem sl_of (C : Cs X Γ W k S) (h : slB S i x = true) : X.N[i]? = some x := by
  rw [C.N]
  exact of_decide_eq_true h
theorem nm_of (h : okNm x = true) : (x == ("__debug__" : Str)) = false ∧ (x == ("__classdict__" : Str)) = false := by
  unfold okNm at h
  simp only [Bool.and_eq_true, Bool.not_eq_true'] at h
  exact h
theorem Cs.blk (C : Cs X Γ W k S) (scope : Scope) (s : Shared) (H : Hp) (A : Addr) (cl : List (Str × Addr)) (fp : List Addr) : Cs (X.blk s H scope (compEnvC scope cl A X.env) fp) Γ W0 k (S.blk scope) := by
  refine ⟨⟨C.c.prog, C.c.w, C.c.K, C.c.mg, C.c.base, C.c.calm, C.c.nd, C.c.un, takes0⟩, C.N, ?_, fun x => rfl, C.hr⟩
  show relabel scope X.env = relS scope S.sc
  rw [← C.sc]
  rfl
theorem tg_one {i : Nat} {e : Expr} (h : tgN S i e = true) : ∀ (Y : Cx) (V : WX), Cs Y Γ V k S → TgOk Y Γ (.n i) e (gName i) := fun Y V CY => by
  unfold tgN at h
  split at h
  · simp only [Bool.and_eq_true] at h
    obtain ⟨a, b⟩ := loc_of CY h.2
    exact tg_name CY.c.nd (sl_of CY h.1) a b
  · cases h
theorem tg_many : ∀ {is : List Nat} {ts : List Expr}, chkTs S is ts = true → ∃ g, (∀ (Y : Cx) (V : WX), Cs Y Γ V k S → TgsOk Y Γ is ts g) ∧ ts.length = is.length ∧ noStars ts = true
  | [], [], _ => ⟨gNil, fun Y V CY => tgs_nil, rfl, rfl⟩
  | [], _ :: _, h => by cases h
  | _ :: _, [], h => by cases h
  | i :: is, t :: ts, h => by
    have h : (tgN S i t && chkTs S is ts) = true := h
    rw [Bool.and_eq_true] at h
    obtain ⟨g, h1, h2, h3⟩ := tg_many h.2
    have hst : isStar t = false := by
      cases t <;> first | rfl | (cases h.1)
    refine ⟨gCons (gName i) g, fun Y V CY => tgs_cons (tg_one h.1 Y V CY) (h1 Y V CY) (fun v σ H Q Q' q f => f _ _ q) hst, congrArg (· + 1) h2, ?_⟩
    unfold noStars
    rw [hst]
    exact h3
theorem tg_of {tg : Tg} {e : Expr} (h : chkT S tg e = true) : ∃ g, ∀ (Y : Cx) (V : WX), Cs Y Γ V k S → TgOk Y Γ tg e g := by
  unfold chkT at h
  split at h
  · exact ⟨_, tg_one h⟩
  · split at h
    · rename_i is _ ts kk pos
      obtain ⟨g, h1, h2, h3⟩ := tg_many (Γ := Γ) (k := k) h
      refine ⟨gTup Γ.K is.length g, fun Y V CY => ?_⟩
      have z := tg_tup CY.c (h1 Y V CY) h2 h3 (k := kk) (pos := pos)
      rw [CY.c.K] at z
      exact z
    · cases h
abbrev Bth (X : Cx) (Γ : Gm) (W : WX) (e : Expr) (ev : Env → Hh → R Vl) : Prop := PE X e (tE Γ W ev) ∧ PT X e (tB' Γ W (tru ev))
theorem bth {e : Expr} {ev : Env → Hh → R Vl} (C : Cs X Γ W k S) (h : PE X e (tE Γ W ev)) (ht : plainT e = true) : Bth X Γ W e ev := ⟨h, t_plain C.c h (plainT_is ht)⟩
end
def AllPE (X : Cx) (Γ : Gm) (W : WX) : List Expr → List (Env → Hh → R Vl) → Prop
  | [], [] => True
  | e :: es, v :: vs => PE X e (tE Γ W v) ∧ AllPE X Γ W es vs
  | _, _ => False
def argsEv : List (Env → Hh → R Vl) → Env → Hh → R (List Vl)
  | [] => fun _ h => .ok [] h
  | v :: vs => fun env h => bnd (v env h) fun x h => bnd (argsEv vs env h) fun xs h => .ok (x :: xs) h
theorem pw_of {X : Cx} {op : PySem.BoolOp} {es : List Expr} {pos : Pos} {t : TT} (h : PT X (.BoolOp op es pos) t) : PW X (.BoolOp op es pos) t := ⟨fun _ pins s σ H Q I hq => h.run pins s σ H Q I hq⟩
theorem tgIn_of {tg : Tg} {own : List Nat} (h : tgIn tg own = true) : ∀ i ∈ slots tg, i ∈ own := fun i hi => by
  unfold tgIn at h
  exact List.contains_iff_mem.mp (List.all_eq_true.mp h i hi)
theorem anil_of {D : Nm} {S : Sc} {x : Ex} (h : chkA D S x [] = true) : x = .anil := by
  cases x <;> first | rfl | (unfold chkA at h; cases h)
theorem ts_nil {X : Cx} {Γ : Gm} {W : WX} : PTs X [] (tB' Γ W fun _ h => .ok true h) := ⟨fun pins s σ H Q I hq => pts_nil.run pins s σ H Q I (by
  obtain ⟨L, m, h, env, rh, re, k⟩ := hq
  exact k.now (u := true) rh rfl)⟩
section
variable {Γ : Gm} {G : GT} {D : Nm} {cf : CF} {k : Nat}
mutual
theorem sndE (V : Lv Γ G D cf k) : ∀ (x : Ex) {X : Cx} {W : WX} {S : Sc} {e : Expr}, Cs X Γ W k S → chkE D S x e = true → Bth X Γ W e (evE G cf x)
  | .var i, X, W, S, e, C, h => by
    unfold chkE at h
    split at h
    · simp only [Bool.and_eq_true] at h
      obtain ⟨⟨h1, h2⟩, h3⟩ := h
      exact bth C (s_var (sl_of C h1) (vis_of C h2) (nm_of h3).1 (nm_of h3).2) rfl
    · cases h
  | .int i, X, W, S, e, C, h => by
    unfold chkE at h
    split at h
    · cases of_decide_eq_true h
      exact bth C (s_const pe_int fun _ _ _ => rfl) rfl
    · cases h
  | .bl i, X, W, S, e, C, h => by
    unfold chkE at h
    split at h
    · cases of_decide_eq_true h
      exact bth C (s_const pe_bl fun _ _ _ => rfl) rfl
    · cases h
  | .non, X, W, S, e, C, h => by
    unfold chkE at h
    split at h
    · exact bth C (s_const pe_non fun _ _ _ => rfl) rfl
    · cases h
  | .str s, X, W, S, e, C, h => by
    unfold chkE at h
    split at h
    · cases of_decide_eq_true h
      exact bth C (s_const pe_str fun _ _ _ => rfl) rfl
    · cases h
  | .gl g, X, W, S, e, C, h => by
    unfold chkE at h
    split at h
    · rename_i x pos
      simp only [Bool.and_eq_true] at h
      obtain ⟨⟨h1, h2⟩, h3⟩ := h
      obtain ⟨v, u, w, e1, e2, e3, e4⟩ := V.gv _ g (of_decide_eq_true h2)
      rw [← C.c.mg] at e2
      have q : PE X (.Name x pos) (tE Γ W fun _ h => .ok v h) := s_const (pe_glob (gl_of C h1) e2 e3 (nm_of h3).1) e4
      have z : evE G cf (.gl g) = fun _ h => .ok v h := by
        funext env h
        show lift (G.gv g) h = _
        rw [e1]
        rfl
      rw [z]
      exact bth C q rfl
    · cases h
  | .bin o a b, X, W, S, e, C, h => by
    unfold chkE at h
    split at h
    · simp only [Bool.and_eq_true] at h
      obtain ⟨⟨h1, h2⟩, h3⟩ := h
      cases opB_eq h1
      exact bth C (s_bin C.c o (sndE V a C h2).1 (sndE V b C h3).1) rfl
    · cases h
  | .neg a, X, W, S, e, C, h => by
    unfold chkE at h
    split at h
    · exact bth C (s_neg (sndE V a C h).1) rfl
    · cases h
  | .cmp o a b, X, W, S, e, C, h => by
    unfold chkE at h
    split at h
    · simp only [Bool.and_eq_true, Bool.not_eq_true'] at h
      obtain ⟨⟨⟨h1, h2⟩, h3⟩, h4⟩ := h
      cases cpB_eq h1
      exact ⟨s_cmp C.c o (sndE V a C h2).1 (sndE V b C h3).1 h4, t_cmp C.c o (sndE V a C h2).1 (sndE V b C h3).1 h4⟩
    · cases h
  | .chain o p a b c, X, W, S, e, C, h => by
    unfold chkE at h
    split at h
    · simp only [Bool.and_eq_true, Bool.not_eq_true'] at h
      obtain ⟨⟨⟨⟨⟨h1, h2⟩, h3⟩, h4⟩, h5⟩, h6⟩ := h
      cases cpB_eq h1
      cases cpB_eq h2
      exact ⟨s_chain C.c o p (sndE V a C h3).1 (sndE V b C h4).1 (sndE V c C h5).1 h6, t_chain C.c o p (sndE V a C h3).1 (sndE V b C h4).1 (sndE V c C h5).1 h6⟩
    · cases h
  | .and a b, X, W, S, e, C, h => by
    have q := fun {e} => sndE V b (X := X) (W := W) (S := S) (e := e) C
    unfold chkE at h
    split at h
    · simp only [Bool.and_eq_true] at h
      have qa := sndE V a C h.1
      have qb := sndE V b C h.2
      exact ⟨s_and qa.1 (s_and1 qb.1), (w_and qa.2 (w_and1 qb.2)).pt⟩
    · simp only [Bool.and_eq_true] at h
      have qa := sndE V a C h.1
      have qb := q h.2
      exact ⟨s_and qa.1 qb.1, (w_and qa.2 (pw_of qb.2)).pt⟩
    · cases h
  | .or a b, X, W, S, e, C, h => by
    have q := fun {e} => sndE V b (X := X) (W := W) (S := S) (e := e) C
    unfold chkE at h
    split at h
    · simp only [Bool.and_eq_true] at h
      have qa := sndE V a C h.1
      have qb := sndE V b C h.2
      exact ⟨s_or qa.1 (s_or1 qb.1), (w_or qa.2 (w_or1 qb.2)).pt⟩
    · simp only [Bool.and_eq_true] at h
      have qa := sndE V a C h.1
      have qb := q h.2
      exact ⟨s_or qa.1 qb.1, (w_or qa.2 (pw_of qb.2)).pt⟩
    · cases h
  | .not a, X, W, S, e, C, h => by
    unfold chkE at h
    split at h
    · exact ⟨s_not C.c (sndE V a C h).1, t_not (sndE V a C h).2⟩
    · cases h
  | .ite c a b, X, W, S, e, C, h => by
    unfold chkE at h
    split at h
    · simp only [Bool.and_eq_true] at h
      obtain ⟨⟨h1, h2⟩, h3⟩ := h
      exact ⟨s_ite (sndE V c C h1).2 (sndE V a C h2).1 (sndE V b C h3).1, t_ite (sndE V c C h1).2 (sndE V a C h2).2 (sndE V b C h3).2⟩
    · cases h
  | .tup as, X, W, S, e, C, h => by
    unfold chkE at h
    split at h
    · exact bth C (s_tup (sndA V as C h)) rfl
    · cases h
  | .fz f, X, W, S, e, C, h => by
    unfold chkE at h
    simp only [Bool.and_eq_true] at h
    exact bth C (s_fz (sndF V f C h.1)) h.2
  | .th f, X, W, S, e, C, h => by
    unfold chkE at h
    simp only [Bool.and_eq_true] at h
    exact bth C (s_th (sndF V f C h.1)) h.2
  | .sub a i, X, W, S, e, C, h => by
    unfold chkE at h
    split at h
    · simp only [Bool.and_eq_true, Bool.not_eq_true'] at h
      obtain ⟨⟨h1, h2⟩, h3⟩ := h
      exact bth C (s_sub C.c (sndE V a C h1).1 (sndE V i C h2).1 (plainIx_of h3)) rfl
    · cases h
  | .slc a lo hi, X, W, S, e, C, h => by
    unfold chkE at h
    split at h
    · simp only [Bool.and_eq_true] at h
      obtain ⟨⟨h1, h2⟩, h3⟩ := h
      exact bth C (s_slc C.c (sndE V a C h1).1 (sndO V lo C h2) (sndO V hi C h3)) rfl
    · cases h
  | .call f as, X, W, S, e, C, h => by
    unfold chkE at h
    split at h
    · simp only [Bool.and_eq_true] at h
      obtain ⟨⟨⟨⟨h1, h2⟩, h3⟩, h4⟩, h5⟩ := h
      have hm := V.fn _ f (of_decide_eq_true h2)
      rename_i x p es pos
      cases es with
      | nil =>
        have e := anil_of h5
        subst e
        exact bth C (s_call0 C.c (V.fi f) C.hr (gl_of C h1) hm (nm_of h3).1) rfl
      | cons e es => exact bth C (s_call C.c (V.fi f) C.hr (gl_of C h1) hm (nm_of h3).1 (sndA V as C h5) h4) rfl
    · cases h
  | .callv i as, X, W, S, e, C, h => by
    unfold chkE at h
    split at h
    · simp only [Bool.and_eq_true] at h
      obtain ⟨⟨⟨⟨h1, h2⟩, h3⟩, h4⟩, h5⟩ := h
      exact bth C (s_callv C.c V.fi C.hr (sl_of C h1) (vis_of C h2) (nm_of h3).1 (nm_of h3).2 (sndA V as C h5) h4) rfl
    · cases h
  | .mk _ _, X, W, S, e, C, h => by
    unfold chkE at h
    cases h
  | .bif b as, X, W, S, e, C, h => by
    have qa := fun {es} => sndA V as (X := X) (W := W) (S := S) (es := es) C
    have qx := fun {es} => sndX V as (X := X) (W := W) (S := S) (es := es) C
    unfold chkE at h
    split at h
    · rename_i x p a es pos
      rw [Bool.or_eq_true] at h
      rcases h with h | h
      · simp only [Bool.and_eq_true] at h
        obtain ⟨⟨⟨⟨h1, h2⟩, h3⟩, h4⟩, h5⟩ := h
        cases of_decide_eq_true h1
        have hb : bifNm b ≠ "" := of_decide_eq_true h2
        have hn : Str.ofString (bifNm b) ∈ bNames := by cases b <;> first | exact absurd rfl hb | decide
        exact bth C (s_bif C.c (gl_of C h3) hb (V.nb _ hn) (qa h5) h4) rfl
      · split at h
        · rename_i t p2
          simp only [Bool.and_eq_true, Bool.not_eq_true'] at h
          obtain ⟨⟨⟨⟨⟨⟨h1, h2⟩, h3⟩, h4⟩, h5⟩, h6⟩, h7⟩ := h
          cases of_decide_eq_true h1
          cases of_decide_eq_true h2
          have hb : isNm b ≠ "" := of_decide_eq_true h3
          have hn : Str.ofString (isNm b) ∈ bNames := by cases b <;> first | exact absurd rfl hb | decide
          obtain ⟨evs, e1, e2⟩ := qx (by unfold noStars; rw [h6]; rfl) h7
          cases evs with
          | nil => exact e1.elim
          | cons ea r => cases r with
            | cons _ _ => exact e1.2.elim
            | nil =>
              have z : evE G cf (.bif b as) = fun env h => bnd (evA G cf as env h) fun xs h => lift (bifV b h xs) h := rfl
              rw [z, e2]
              exact bth C (s_is C.c hb V.ow (gl_of C h4) (V.nb _ (by decide)) (gl_of C h5) (V.nb _ hn) e1.1 h6) rfl
        · cases h
    · cases h
  | .mth t o as, X, W, S, e, C, h => by
    have qo := fun {e} => sndE V o (X := X) (W := W) (S := S) (e := e) C
    have qa := fun {es} => sndA V as (X := X) (W := W) (S := S) (es := es) C
    unfold chkE at h
    split at h
    · rename_i o' x apos es pos
      simp only [Bool.and_eq_true] at h
      obtain ⟨⟨⟨⟨h1, h2⟩, h3⟩, h4⟩, h5⟩ := h
      cases of_decide_eq_true h1
      split at h5
      · simp only [Bool.and_eq_true, Bool.not_eq_true'] at h5
        exact bth C (s_mth C.c (t := .append) (.inl rfl) (qo h2).1 (qa h5.2) h3 h4 h5.1) rfl
      · simp only [Bool.and_eq_true, Bool.not_eq_true'] at h5
        exact bth C (s_mth C.c (t := .extend) (.inr (.inl rfl)) (qo h2).1 (qa h5.2) h3 h4 h5.1) rfl
      · simp only [Bool.and_eq_true, Bool.not_eq_true'] at h5
        exact bth C (s_mth C.c (t := .pop1) (.inr (.inr rfl)) (qo h2).1 (qa h5.2) h3 h4 h5.1) rfl
      · have e := anil_of h5
        subst e
        exact bth C (s_pop C.c (qo h2).1 h3 h4) rfl
      · have e := anil_of h5
        subst e
        exact bth C (s_bits (qo h2).1 h3 h4) rfl
      · cases h5
    · cases h
  | .attr _ _, X, W, S, e, C, h => by
    unfold chkE at h
    cases h
  | .lrg _, X, W, S, e, C, h => by
    unfold chkE at h
    cases h
  | .rev a, X, W, S, e, C, h => by
    unfold chkE at h
    split at h
    · exact bth C (s_rev C.c (sndE V a C h).1) rfl
    · cases h
  | .dnew, X, W, S, e, C, h => by
    unfold chkE at h
    split at h
    · exact bth C s_dnew rfl
    · cases h
  | .trg as, X, W, S, e, C, h => by
    have qx := fun {es} => sndX V as (X := X) (W := W) (S := S) (es := es) C
    unfold chkE at h
    split at h
    · simp only [Bool.and_eq_true, Bool.not_eq_true'] at h
      obtain ⟨⟨⟨⟨⟨h1, h2⟩, h3⟩, h4⟩, h5⟩, h6⟩ := h
      cases of_decide_eq_true h1
      cases of_decide_eq_true h2
      obtain ⟨evs, e1, e2⟩ := qx (by unfold noStars; rw [h5]; rfl) h6
      cases evs with
      | nil => exact e1.elim
      | cons ea r => cases r with
        | cons _ _ => exact e1.2.elim
        | nil =>
          have z : evE G cf (.trg as) = fun env h => bnd (evA G cf as env h) trgR := rfl
          rw [z, e2]
          exact bth C (s_trg1 C.c (gl_of C h3) (V.nb _ (by decide)) (gl_of C h4) (V.nb _ (by decide)) e1.1 h5) rfl
    · cases h
  | .anil, X, W, S, e, C, h => by
    unfold chkE at h
    cases h
  | .acons _ _, X, W, S, e, C, h => by
    unfold chkE at h
    cases h
  | .astar _ _, X, W, S, e, C, h => by
    unfold chkE at h
    cases h
  | .disp _, X, W, S, e, C, h => by
    unfold chkE at h
    cases h
  | .comp _ _ _ _ _, X, W, S, e, C, h => by
    unfold chkE at h
    cases h
  | .listof _, X, W, S, e, C, h => by
    unfold chkE at h
    cases h
  | .srt _ _, X, W, S, e, C, h => by
    unfold chkE at h
    cases h
  | .cat _ _, X, W, S, e, C, h => by
    unfold chkE at h
    cases h
  | .rep _ _, X, W, S, e, C, h => by
    unfold chkE at h
    cases h
  | .slf _ _ _, X, W, S, e, C, h => by
    unfold chkE at h
    cases h
  | .over _, X, W, S, e, C, h => by
    unfold chkE at h
    cases h
  | .range _, X, W, S, e, C, h => by
    unfold chkE at h
    cases h
  | .enum _, X, W, S, e, C, h => by
    unfold chkE at h
    cases h
  | .zip _ _, X, W, S, e, C, h => by
    unfold chkE at h
    cases h
  | .noe, X, W, S, e, C, h => by
    unfold chkE at h
    cases h
  | .sm _, X, W, S, e, C, h => by
    unfold chkE at h
    cases h
theorem sndA (V : Lv Γ G D cf k) : ∀ (x : Ex) {X : Cx} {W : WX} {S : Sc} {es : List Expr}, Cs X Γ W k S → chkA D S x es = true → PA X es (tL Γ W (evA G cf x))
  | .anil, X, W, S, e, C, h => by
    unfold chkA at h
    split at h
    · exact a_nil
    · cases h
  | .acons a r, X, W, S, e, C, h => by
    unfold chkA at h
    split at h
    · simp only [Bool.and_eq_true, Bool.not_eq_true'] at h
      obtain ⟨⟨h1, h2⟩, h3⟩ := h
      exact a_cons (sndE V a C h2).1 (sndA V r C h3) (star_cons h1)
    · cases h
  | .astar a r, X, W, S, e, C, h => by
    unfold chkA at h
    split at h
    · simp only [Bool.and_eq_true] at h
      exact a_star C.c (sndE V a C h.1).1 (sndA V r C h.2)
    · cases h
  | .var _, X, W, S, e, C, h => by
    unfold chkA at h
    cases h
  | .int _, X, W, S, e, C, h => by
    unfold chkA at h
    cases h
  | .bl _, X, W, S, e, C, h => by
    unfold chkA at h
    cases h
  | .non, X, W, S, e, C, h => by
    unfold chkA at h
    cases h
  | .str _, X, W, S, e, C, h => by
    unfold chkA at h
    cases h
  | .gl _, X, W, S, e, C, h => by
    unfold chkA at h
    cases h
  | .bin _ _ _, X, W, S, e, C, h => by
    unfold chkA at h
    cases h
  | .neg _, X, W, S, e, C, h => by
    unfold chkA at h
    cases h
  | .cmp _ _ _, X, W, S, e, C, h => by
    unfold chkA at h
    cases h
  | .chain _ _ _ _ _, X, W, S, e, C, h => by
    unfold chkA at h
    cases h
  | .and _ _, X, W, S, e, C, h => by
    unfold chkA at h
    cases h
  | .or _ _, X, W, S, e, C, h => by
    unfold chkA at h
    cases h
  | .not _, X, W, S, e, C, h => by
    unfold chkA at h
    cases h
  | .ite _ _ _, X, W, S, e, C, h => by
    unfold chkA at h
    cases h
  | .tup _, X, W, S, e, C, h => by
    unfold chkA at h
    cases h
  | .fz _, X, W, S, e, C, h => by
    unfold chkA at h
    cases h
  | .th _, X, W, S, e, C, h => by
    unfold chkA at h
    cases h
  | .sub _ _, X, W, S, e, C, h => by
    unfold chkA at h
    cases h
  | .slc _ _ _, X, W, S, e, C, h => by
    unfold chkA at h
    cases h
  | .call _ _, X, W, S, e, C, h => by
    unfold chkA at h
    cases h
  | .callv _ _, X, W, S, e, C, h => by
    unfold chkA at h
    cases h
  | .mk _ _, X, W, S, e, C, h => by
    unfold chkA at h
    cases h
  | .bif _ _, X, W, S, e, C, h => by
    unfold chkA at h
    cases h
  | .mth _ _ _, X, W, S, e, C, h => by
    unfold chkA at h
    cases h
  | .attr _ _, X, W, S, e, C, h => by
    unfold chkA at h
    cases h
  | .rev _, X, W, S, e, C, h => by
    unfold chkA at h
    cases h
  | .dnew, X, W, S, e, C, h => by
    unfold chkA at h
    cases h
  | .trg _, X, W, S, e, C, h => by
    unfold chkA at h
    cases h
  | .lrg _, X, W, S, e, C, h => by
    unfold chkA at h
    cases h
  | .disp _, X, W, S, e, C, h => by
    unfold chkA at h
    cases h
  | .comp _ _ _ _ _, X, W, S, e, C, h => by
    unfold chkA at h
    cases h
  | .listof _, X, W, S, e, C, h => by
    unfold chkA at h
    cases h
  | .srt _ _, X, W, S, e, C, h => by
    unfold chkA at h
    cases h
  | .cat _ _, X, W, S, e, C, h => by
    unfold chkA at h
    cases h
  | .rep _ _, X, W, S, e, C, h => by
    unfold chkA at h
    cases h
  | .slf _ _ _, X, W, S, e, C, h => by
    unfold chkA at h
    cases h
  | .over _, X, W, S, e, C, h => by
    unfold chkA at h
    cases h
  | .range _, X, W, S, e, C, h => by
    unfold chkA at h
    cases h
  | .enum _, X, W, S, e, C, h => by
    unfold chkA at h
    cases h
  | .zip _ _, X, W, S, e, C, h => by
    unfold chkA at h
    cases h
  | .noe, X, W, S, e, C, h => by
    unfold chkA at h
    cases h
  | .sm _, X, W, S, e, C, h => by
    unfold chkA at h
    cases h
theorem sndX (V : Lv Γ G D cf k) : ∀ (x : Ex) {X : Cx} {W : WX} {S : Sc} {es : List Expr}, Cs X Γ W k S → noStars es = true → chkA D S x es = true → ∃ evs, AllPE X Γ W es evs ∧ evA G cf x = argsEv evs
  | .anil, X, W, S, e, C, hn, h => by
    unfold chkA at h
    split at h
    · exact ⟨[], trivial, rfl⟩
    · cases h
  | .acons a r, X, W, S, e, C, hn, h => by
    unfold chkA at h
    split at h
    · simp only [Bool.and_eq_true, Bool.not_eq_true'] at h
      obtain ⟨⟨h1, h2⟩, h3⟩ := h
      obtain ⟨evs, e1, e2⟩ := sndX V r C (noStars_cons hn).2 h3
      refine ⟨evE G cf a :: evs, ⟨(sndE V a C h2).1, e1⟩, ?_⟩
      show (fun env h => bnd (evE G cf a env h) fun x h => bnd (evA G cf r env h) fun xs h => .ok (x :: xs) h) = _
      rw [e2]
      rfl
    · cases h
  | .astar a r, X, W, S, e, C, hn, h => by
    unfold chkA at h
    split at h
    · cases (noStars_cons hn).1
    · cases h
  | .var _, X, W, S, e, C, hn, h => by
    unfold chkA at h
    cases h
  | .int _, X, W, S, e, C, hn, h => by
    unfold chkA at h
    cases h
  | .bl _, X, W, S, e, C, hn, h => by
    unfold chkA at h
    cases h
  | .non, X, W, S, e, C, hn, h => by
    unfold chkA at h
    cases h
  | .str _, X, W, S, e, C, hn, h => by
    unfold chkA at h
    cases h
  | .gl _, X, W, S, e, C, hn, h => by
    unfold chkA at h
    cases h
  | .bin _ _ _, X, W, S, e, C, hn, h => by
    unfold chkA at h
    cases h
  | .neg _, X, W, S, e, C, hn, h => by
    unfold chkA at h
    cases h
  | .cmp _ _ _, X, W, S, e, C, hn, h => by
    unfold chkA at h
    cases h
  | .chain _ _ _ _ _, X, W, S, e, C, hn, h => by
    unfold chkA at h
    cases h
  | .and _ _, X, W, S, e, C, hn, h => by
    unfold chkA at h
    cases h
  | .or _ _, X, W, S, e, C, hn, h => by
    unfold chkA at h
    cases h
  | .not _, X, W, S, e, C, hn, h => by
    unfold chkA at h
    cases h
  | .ite _ _ _, X, W, S, e, C, hn, h => by
    unfold chkA at h
    cases h
  | .tup _, X, W, S, e, C, hn, h => by
    unfold chkA at h
    cases h
  | .fz _, X, W, S, e, C, hn, h => by
    unfold chkA at h
    cases h
  | .th _, X, W, S, e, C, hn, h => by
    unfold chkA at h
    cases h
  | .sub _ _, X, W, S, e, C, hn, h => by
    unfold chkA at h
    cases h
  | .slc _ _ _, X, W, S, e, C, hn, h => by
    unfold chkA at h
    cases h
  | .call _ _, X, W, S, e, C, hn, h => by
    unfold chkA at h
    cases h
  | .callv _ _, X, W, S, e, C, hn, h => by
    unfold chkA at h
    cases h
  | .mk _ _, X, W, S, e, C, hn, h => by
    unfold chkA at h
    cases h
  | .bif _ _, X, W, S, e, C, hn, h => by
    unfold chkA at h
    cases h
  | .mth _ _ _, X, W, S, e, C, hn, h => by
    unfold chkA at h
    cases h
  | .attr _ _, X, W, S, e, C, hn, h => by
    unfold chkA at h
    cases h
  | .rev _, X, W, S, e, C, hn, h => by
    unfold chkA at h
    cases h
  | .dnew, X, W, S, e, C, hn, h => by
    unfold chkA at h
    cases h
  | .trg _, X, W, S, e, C, hn, h => by
    unfold chkA at h
    cases h
  | .lrg _, X, W, S, e, C, hn, h => by
    unfold chkA at h
    cases h
  | .disp _, X, W, S, e, C, hn, h => by
    unfold chkA at h
    cases h
  | .comp _ _ _ _ _, X, W, S, e, C, hn, h => by
    unfold chkA at h
    cases h
  | .listof _, X, W, S, e, C, hn, h => by
    unfold chkA at h
    cases h
  | .srt _ _, X, W, S, e, C, hn, h => by
    unfold chkA at h
    cases h
  | .cat _ _, X, W, S, e, C, hn, h => by
    unfold chkA at h
    cases h
  | .rep _ _, X, W, S, e, C, hn, h => by
    unfold chkA at h
    cases h
  | .slf _ _ _, X, W, S, e, C, hn, h => by
    unfold chkA at h
    cases h
  | .over _, X, W, S, e, C, hn, h => by
    unfold chkA at h
    cases h
  | .range _, X, W, S, e, C, hn, h => by
    unfold chkA at h
    cases h
  | .enum _, X, W, S, e, C, hn, h => by
    unfold chkA at h
    cases h
  | .zip _ _, X, W, S, e, C, hn, h => by
    unfold chkA at h
    cases h
  | .noe, X, W, S, e, C, hn, h => by
    unfold chkA at h
    cases h
  | .sm _, X, W, S, e, C, hn, h => by
    unfold chkA at h
    cases h
theorem sndF (V : Lv Γ G D cf k) : ∀ (x : Ex) {X : Cx} {W : WX} {S : Sc} {e : Expr}, Cs X Γ W k S → chkF D S x e = true → PE X e (tF Γ W (evF G cf x))
  | .disp as, X, W, S, e, C, h => by
    unfold chkF at h
    split at h
    · exact f_disp (sndA V as C h)
    · cases h
  | .comp own tg it c el, X, W, S, e, C, h => by
    have qw := fun {t e} => sndW V it (X := X) (W := W) (S := S) (t := t) (e := e) C
    have qc := fun {Y S e} (CY : Cs Y Γ W0 k S) => sndC V c (X := Y) (W := W0) (S := S) (es := e) CY
    have qe := fun {Y S e} (CY : Cs Y Γ W0 k S) => sndE V el (X := Y) (W := W0) (S := S) (e := e) CY
    unfold chkF at h
    split at h
    · simp only [Bool.and_eq_true] at h
      obtain ⟨⟨⟨⟨⟨⟨⟨h1, h2⟩, h3⟩, h4⟩, h5⟩, h6⟩, h7⟩, h8⟩ := h
      have h1 := of_decide_eq_true h1
      obtain ⟨g, hg⟩ := tg_of (Γ := Γ) (k := k) h5
      have z := f_comp (own := ownP S own) (pos := by assumption) C.c (qw h6) (by rw [C.N, C.sc]; exact blkOk_by h2) (fun s H A cl fp => hg _ _ (C.blk _ s H A cl fp)) (fun s H A cl fp => qc (C.blk _ s H A cl fp) h7) (fun s H A cl fp => (qe (C.blk _ s H A cl fp) h8).1) (by rw [h1]; exact tgIn_of h3) (noSet_fold h4)
      rw [h1] at z
      exact z
    · cases h
  | .listof a, X, W, S, e, C, h => by
    unfold chkF at h
    split at h
    · simp only [Bool.and_eq_true, Bool.not_eq_true'] at h
      obtain ⟨⟨⟨h1, h2⟩, h3⟩, h4⟩ := h
      cases of_decide_eq_true h1
      exact f_list C.c (gl_of C h2) (V.nb _ (by decide)) (sndE V a C h4).1 h3
    · cases h
  | .srt rev a, X, W, S, e, C, h => by
    have qa := fun {e} => sndE V a (X := X) (W := W) (S := S) (e := e) C
    unfold chkF at h
    split at h
    · simp only [Bool.and_eq_true, Bool.not_eq_true'] at h
      obtain ⟨⟨⟨⟨h1, h2⟩, h3⟩, h4⟩, h5⟩ := h
      cases of_decide_eq_true h1
      subst h5
      exact f_sorted2 C.c (gl_of C h2) (V.nb _ (by decide)) (qa h4).1 h3
    · simp only [Bool.and_eq_true, Bool.not_eq_true'] at h
      obtain ⟨⟨⟨⟨⟨h1, h2⟩, h3⟩, h4⟩, h5⟩, h6⟩ := h
      cases of_decide_eq_true h1
      cases of_decide_eq_true h2
      subst h6
      exact f_sortedR2 C.c (gl_of C h3) (V.nb _ (by decide)) (qa h5).1 h4
    · cases h
  | .lrg as, X, W, S, e, C, h => by
    have qx := fun {es} => sndX V as (X := X) (W := W) (S := S) (es := es) C
    unfold chkF at h
    split at h
    · rename_i x p1 y p2 es p3 p4
      simp only [Bool.and_eq_true] at h
      obtain ⟨⟨⟨⟨⟨⟨⟨h1, h2⟩, h3⟩, h4⟩, h5⟩, h6⟩, h7⟩, h8⟩ := h
      cases of_decide_eq_true h1
      cases of_decide_eq_true h2
      obtain ⟨evs, e1, e2⟩ := qx h5 h6
      have z : evF G cf (.lrg as) = fun env h => bnd (evA G cf as env h) fun xs h => lift (rngL xs) h := rfl
      rw [z, e2]
      have l5 := of_decide_eq_true h7
      have l6 := of_decide_eq_true h8
      match es, evs, e1, h5, l5, l6 with
      | [a], [ea], e1, h5, _, _ => exact f_lrg1 (e1 := a) C.c (gl_of C h3) (V.nb _ (by decide)) (gl_of C h4) (V.nb _ (by decide)) e1.1 (noStars_cons h5).1
      | [a, b], [ea, eb], e1, h5, _, _ => exact f_lrg2 C.c (gl_of C h3) (V.nb _ (by decide)) (gl_of C h4) (V.nb _ (by decide)) e1.1 e1.2.1 h5
      | [], _, _, _, l5, _ => exact absurd l5 (by decide)
      | _ :: _ :: _ :: _, _, _, _, _, l6 => exact absurd l6 (by simp)
      | [_], [], e1, _, _, _ => exact e1.elim
      | [_], _ :: _ :: _, e1, _, _, _ => exact e1.2.elim
      | [_, _], [], e1, _, _, _ => exact e1.elim
      | [_, _], [_], e1, _, _, _ => exact e1.2.elim
      | [_, _], _ :: _ :: _ :: _, e1, _, _, _ => exact e1.2.2.elim
    · cases h
  | .cat a b, X, W, S, e, C, h => by
    unfold chkF at h
    split at h
    · simp only [Bool.and_eq_true] at h
      exact s_cat C.c (sndE V a C h.1).1 (sndE V b C h.2).1
    · cases h
  | .rep a b, X, W, S, e, C, h => by
    unfold chkF at h
    split at h
    · simp only [Bool.and_eq_true] at h
      exact s_rep C.c (sndE V a C h.1).1 (sndE V b C h.2).1
    · cases h
  | .slf a lo hi, X, W, S, e, C, h => by
    unfold chkF at h
    split at h
    · simp only [Bool.and_eq_true] at h
      obtain ⟨⟨h1, h2⟩, h3⟩ := h
      exact f_slf C.c (sndE V a C h1).1 (sndO V lo C h2) (sndO V hi C h3)
    · cases h
  | .var _, X, W, S, e, C, h => by
    unfold chkF at h
    cases h
  | .int _, X, W, S, e, C, h => by
    unfold chkF at h
    cases h
  | .bl _, X, W, S, e, C, h => by
    unfold chkF at h
    cases h
  | .non, X, W, S, e, C, h => by
    unfold chkF at h
    cases h
  | .str _, X, W, S, e, C, h => by
    unfold chkF at h
    cases h
  | .gl _, X, W, S, e, C, h => by
    unfold chkF at h
    cases h
  | .bin _ _ _, X, W, S, e, C, h => by
    unfold chkF at h
    cases h
  | .neg _, X, W, S, e, C, h => by
    unfold chkF at h
    cases h
  | .cmp _ _ _, X, W, S, e, C, h => by
    unfold chkF at h
    cases h
  | .chain _ _ _ _ _, X, W, S, e, C, h => by
    unfold chkF at h
    cases h
  | .and _ _, X, W, S, e, C, h => by
    unfold chkF at h
    cases h
  | .or _ _, X, W, S, e, C, h => by
    unfold chkF at h
    cases h
  | .not _, X, W, S, e, C, h => by
    unfold chkF at h
    cases h
  | .ite _ _ _, X, W, S, e, C, h => by
    unfold chkF at h
    cases h
  | .tup _, X, W, S, e, C, h => by
    unfold chkF at h
    cases h
  | .fz _, X, W, S, e, C, h => by
    unfold chkF at h
    cases h
  | .th _, X, W, S, e, C, h => by
    unfold chkF at h
    cases h
  | .sub _ _, X, W, S, e, C, h => by
    unfold chkF at h
    cases h
  | .slc _ _ _, X, W, S, e, C, h => by
    unfold chkF at h
    cases h
  | .call _ _, X, W, S, e, C, h => by
    unfold chkF at h
    cases h
  | .callv _ _, X, W, S, e, C, h => by
    unfold chkF at h
    cases h
  | .mk _ _, X, W, S, e, C, h => by
    unfold chkF at h
    cases h
  | .bif _ _, X, W, S, e, C, h => by
    unfold chkF at h
    cases h
  | .mth _ _ _, X, W, S, e, C, h => by
    unfold chkF at h
    cases h
  | .attr _ _, X, W, S, e, C, h => by
    unfold chkF at h
    cases h
  | .rev _, X, W, S, e, C, h => by
    unfold chkF at h
    cases h
  | .dnew, X, W, S, e, C, h => by
    unfold chkF at h
    cases h
  | .trg _, X, W, S, e, C, h => by
    unfold chkF at h
    cases h
  | .anil, X, W, S, e, C, h => by
    unfold chkF at h
    cases h
  | .acons _ _, X, W, S, e, C, h => by
    unfold chkF at h
    cases h
  | .astar _ _, X, W, S, e, C, h => by
    unfold chkF at h
    cases h
  | .over _, X, W, S, e, C, h => by
    unfold chkF at h
    cases h
  | .range _, X, W, S, e, C, h => by
    unfold chkF at h
    cases h
  | .enum _, X, W, S, e, C, h => by
    unfold chkF at h
    cases h
  | .zip _ _, X, W, S, e, C, h => by
    unfold chkF at h
    cases h
  | .noe, X, W, S, e, C, h => by
    unfold chkF at h
    cases h
  | .sm _, X, W, S, e, C, h => by
    unfold chkF at h
    cases h
theorem sndW (V : Lv Γ G D cf k) : ∀ (x : Ex) {X : Cx} {W : WX} {S : Sc} {t e : Expr}, Cs X Γ W k S → chkW D S x t e = true → PI X t e (tW Γ W (evW G cf x))
  | .over a, X, W, S, t, e, C, h => by
    unfold chkW at h
    exact w_over C.c (sndE V a C h).1
  | .range as, X, W, S, t, e, C, h => by
    have qx := fun {es} => sndX V as (X := X) (W := W) (S := S) (es := es) C
    unfold chkW at h
    split at h
    · rename_i x p es pos
      simp only [Bool.and_eq_true] at h
      obtain ⟨⟨⟨⟨⟨h1, h2⟩, h3⟩, h4⟩, h5⟩, h6⟩ := h
      cases of_decide_eq_true h1
      obtain ⟨evs, e1, e2⟩ := qx h3 h4
      have hn : Γ.mg (Str.ofString "range") = none := V.nb _ (by decide)
      have z : evW G cf (.range as) = fun env h => bnd (evA G cf as env h) r1R := rfl
      rw [z, e2]
      have l5 := of_decide_eq_true h5
      have l6 := of_decide_eq_true h6
      match es, evs, e1, h3, l5, l6 with
      | [a], [ea], e1, h3, _, _ => exact w_range1 C.c (gl_of C h2) hn e1.1 h3
      | [a, b], [ea, eb], e1, h3, _, _ => exact w_range2 C.c (gl_of C h2) hn e1.1 e1.2.1 h3
      | [a, b, c], [ea, eb, ec], e1, h3, _, _ => exact w_range3 C.c (gl_of C h2) hn e1.1 e1.2.1 e1.2.2.1 h3
      | [], _, _, _, l5, _ => exact absurd l5 (by decide)
      | _ :: _ :: _ :: _ :: _, _, _, _, _, l6 => exact absurd l6 (by simp)
      | [_], [], e1, _, _, _ => exact e1.elim
      | [_], _ :: _ :: _, e1, _, _, _ => exact e1.2.elim
      | [_, _], [], e1, _, _, _ => exact e1.elim
      | [_, _], [_], e1, _, _, _ => exact e1.2.elim
      | [_, _], _ :: _ :: _ :: _, e1, _, _, _ => exact e1.2.2.elim
      | [_, _, _], [], e1, _, _, _ => exact e1.elim
      | [_, _, _], [_], e1, _, _, _ => exact e1.2.elim
      | [_, _, _], [_, _], e1, _, _, _ => exact e1.2.2.elim
      | [_, _, _], _ :: _ :: _ :: _ :: _, e1, _, _, _ => exact e1.2.2.2.elim
    · cases h
  | .enum a, X, W, S, t, e, C, h => by
    have qa := fun {e} => sndE V a (X := X) (W := W) (S := S) (e := e) C
    unfold chkW at h
    split at h
    · simp only [Bool.and_eq_true, Bool.not_eq_true'] at h
      obtain ⟨⟨⟨h1, h2⟩, h3⟩, h4⟩ := h
      cases of_decide_eq_true h1
      exact w_enumL C.c (gl_of C h2) (V.nb _ (by decide)) (qa h4).1 (by unfold noStars; rw [h3]; rfl)
    · cases h
  | .zip a b, X, W, S, t, e, C, h => by
    have qa := fun {e} => sndE V a (X := X) (W := W) (S := S) (e := e) C
    have qb := fun {e} => sndE V b (X := X) (W := W) (S := S) (e := e) C
    unfold chkW at h
    split at h
    · simp only [Bool.and_eq_true] at h
      obtain ⟨⟨⟨⟨h1, h2⟩, h3⟩, h4⟩, h5⟩ := h
      cases of_decide_eq_true h1
      exact w_zip C.c (gl_of C h2) (V.nb _ (by decide)) (qa h4).1 (qb h5).1 h3
    · cases h
  | .var _, X, W, S, t, e, C, h => by
    unfold chkW at h
    cases h
  | .int _, X, W, S, t, e, C, h => by
    unfold chkW at h
    cases h
  | .bl _, X, W, S, t, e, C, h => by
    unfold chkW at h
    cases h
  | .non, X, W, S, t, e, C, h => by
    unfold chkW at h
    cases h
  | .str _, X, W, S, t, e, C, h => by
    unfold chkW at h
    cases h
  | .gl _, X, W, S, t, e, C, h => by
    unfold chkW at h
    cases h
  | .bin _ _ _, X, W, S, t, e, C, h => by
    unfold chkW at h
    cases h
  | .neg _, X, W, S, t, e, C, h => by
    unfold chkW at h
    cases h
  | .cmp _ _ _, X, W, S, t, e, C, h => by
    unfold chkW at h
    cases h
  | .chain _ _ _ _ _, X, W, S, t, e, C, h => by
    unfold chkW at h
    cases h
  | .and _ _, X, W, S, t, e, C, h => by
    unfold chkW at h
    cases h
  | .or _ _, X, W, S, t, e, C, h => by
    unfold chkW at h
    cases h
  | .not _, X, W, S, t, e, C, h => by
    unfold chkW at h
    cases h
  | .ite _ _ _, X, W, S, t, e, C, h => by
    unfold chkW at h
    cases h
  | .tup _, X, W, S, t, e, C, h => by
    unfold chkW at h
    cases h
  | .fz _, X, W, S, t, e, C, h => by
    unfold chkW at h
    cases h
  | .th _, X, W, S, t, e, C, h => by
    unfold chkW at h
    cases h
  | .sub _ _, X, W, S, t, e, C, h => by
    unfold chkW at h
    cases h
  | .slc _ _ _, X, W, S, t, e, C, h => by
    unfold chkW at h
    cases h
  | .call _ _, X, W, S, t, e, C, h => by
    unfold chkW at h
    cases h
  | .callv _ _, X, W, S, t, e, C, h => by
    unfold chkW at h
    cases h
  | .mk _ _, X, W, S, t, e, C, h => by
    unfold chkW at h
    cases h
  | .bif _ _, X, W, S, t, e, C, h => by
    unfold chkW at h
    cases h
  | .mth _ _ _, X, W, S, t, e, C, h => by
    unfold chkW at h
    cases h
  | .attr _ _, X, W, S, t, e, C, h => by
    unfold chkW at h
    cases h
  | .rev _, X, W, S, t, e, C, h => by
    unfold chkW at h
    cases h
  | .dnew, X, W, S, t, e, C, h => by
    unfold chkW at h
    cases h
  | .trg _, X, W, S, t, e, C, h => by
    unfold chkW at h
    cases h
  | .lrg _, X, W, S, t, e, C, h => by
    unfold chkW at h
    cases h
  | .anil, X, W, S, t, e, C, h => by
    unfold chkW at h
    cases h
  | .acons _ _, X, W, S, t, e, C, h => by
    unfold chkW at h
    cases h
  | .astar _ _, X, W, S, t, e, C, h => by
    unfold chkW at h
    cases h
  | .disp _, X, W, S, t, e, C, h => by
    unfold chkW at h
    cases h
  | .comp _ _ _ _ _, X, W, S, t, e, C, h => by
    unfold chkW at h
    cases h
  | .listof _, X, W, S, t, e, C, h => by
    unfold chkW at h
    cases h
  | .srt _ _, X, W, S, t, e, C, h => by
    unfold chkW at h
    cases h
  | .cat _ _, X, W, S, t, e, C, h => by
    unfold chkW at h
    cases h
  | .rep _ _, X, W, S, t, e, C, h => by
    unfold chkW at h
    cases h
  | .slf _ _ _, X, W, S, t, e, C, h => by
    unfold chkW at h
    cases h
  | .noe, X, W, S, t, e, C, h => by
    unfold chkW at h
    cases h
  | .sm _, X, W, S, t, e, C, h => by
    unfold chkW at h
    cases h
theorem sndO (V : Lv Γ G D cf k) : ∀ (x : Ex) {X : Cx} {W : WX} {S : Sc} {o : Option Expr}, Cs X Γ W k S → chkO D S x o = true → PO X o (tO' Γ W (evO G cf x))
  | .noe, X, W, S, o, C, h => by
    unfold chkO at h
    split at h
    · exact o_none
    · cases h
  | .sm a, X, W, S, o, C, h => by
    unfold chkO at h
    split at h
    · exact o_some (sndE V a C h).1
    · cases h
  | .var _, X, W, S, o, C, h => by
    unfold chkO at h
    cases h
  | .int _, X, W, S, o, C, h => by
    unfold chkO at h
    cases h
  | .bl _, X, W, S, o, C, h => by
    unfold chkO at h
    cases h
  | .non, X, W, S, o, C, h => by
    unfold chkO at h
    cases h
  | .str _, X, W, S, o, C, h => by
    unfold chkO at h
    cases h
  | .gl _, X, W, S, o, C, h => by
    unfold chkO at h
    cases h
  | .bin _ _ _, X, W, S, o, C, h => by
    unfold chkO at h
    cases h
  | .neg _, X, W, S, o, C, h => by
    unfold chkO at h
    cases h
  | .cmp _ _ _, X, W, S, o, C, h => by
    unfold chkO at h
    cases h
  | .chain _ _ _ _ _, X, W, S, o, C, h => by
    unfold chkO at h
    cases h
  | .and _ _, X, W, S, o, C, h => by
    unfold chkO at h
    cases h
  | .or _ _, X, W, S, o, C, h => by
    unfold chkO at h
    cases h
  | .not _, X, W, S, o, C, h => by
    unfold chkO at h
    cases h
  | .ite _ _ _, X, W, S, o, C, h => by
    unfold chkO at h
    cases h
  | .tup _, X, W, S, o, C, h => by
    unfold chkO at h
    cases h
  | .fz _, X, W, S, o, C, h => by
    unfold chkO at h
    cases h
  | .th _, X, W, S, o, C, h => by
    unfold chkO at h
    cases h
  | .sub _ _, X, W, S, o, C, h => by
    unfold chkO at h
    cases h
  | .slc _ _ _, X, W, S, o, C, h => by
    unfold chkO at h
    cases h
  | .call _ _, X, W, S, o, C, h => by
    unfold chkO at h
    cases h
  | .callv _ _, X, W, S, o, C, h => by
    unfold chkO at h
    cases h
  | .mk _ _, X, W, S, o, C, h => by
    unfold chkO at h
    cases h
  | .bif _ _, X, W, S, o, C, h => by
    unfold chkO at h
    cases h
  | .mth _ _ _, X, W, S, o, C, h => by
    unfold chkO at h
    cases h
  | .attr _ _, X, W, S, o, C, h => by
    unfold chkO at h
    cases h
  | .rev _, X, W, S, o, C, h => by
    unfold chkO at h
    cases h
  | .dnew, X, W, S, o, C, h => by
    unfold chkO at h
    cases h
  | .trg _, X, W, S, o, C, h => by
    unfold chkO at h
    cases h
  | .lrg _, X, W, S, o, C, h => by
    unfold chkO at h
    cases h
  | .anil, X, W, S, o, C, h => by
    unfold chkO at h
    cases h
  | .acons _ _, X, W, S, o, C, h => by
    unfold chkO at h
    cases h
  | .astar _ _, X, W, S, o, C, h => by
    unfold chkO at h
    cases h
  | .disp _, X, W, S, o, C, h => by
    unfold chkO at h
    cases h
  | .comp _ _ _ _ _, X, W, S, o, C, h => by
    unfold chkO at h
    cases h
  | .listof _, X, W, S, o, C, h => by
    unfold chkO at h
    cases h
  | .srt _ _, X, W, S, o, C, h => by
    unfold chkO at h
    cases h
  | .cat _ _, X, W, S, o, C, h => by
    unfold chkO at h
    cases h
  | .rep _ _, X, W, S, o, C, h => by
    unfold chkO at h
    cases h
  | .slf _ _ _, X, W, S, o, C, h => by
    unfold chkO at h
    cases h
  | .over _, X, W, S, o, C, h => by
    unfold chkO at h
    cases h
  | .range _, X, W, S, o, C, h => by
    unfold chkO at h
    cases h
  | .enum _, X, W, S, o, C, h => by
    unfold chkO at h
    cases h
  | .zip _ _, X, W, S, o, C, h => by
    unfold chkO at h
    cases h
theorem sndC (V : Lv Γ G D cf k) : ∀ (x : Ex) {X : Cx} {W : WX} {S : Sc} {es : List Expr}, Cs X Γ W k S → chkC D S x es = true → PTs X es (tB' Γ W (evC G cf x))
  | .noe, X, W, S, o, C, h => by
    unfold chkC at h
    split at h
    · exact ts_nil
    · cases h
  | .sm a, X, W, S, o, C, h => by
    unfold chkC at h
    split at h
    · exact pts_one (sndE V a C h).2
    · cases h
  | .var _, X, W, S, o, C, h => by
    unfold chkC at h
    cases h
  | .int _, X, W, S, o, C, h => by
    unfold chkC at h
    cases h
  | .bl _, X, W, S, o, C, h => by
    unfold chkC at h
    cases h
  | .non, X, W, S, o, C, h => by
    unfold chkC at h
    cases h
  | .str _, X, W, S, o, C, h => by
    unfold chkC at h
    cases h
  | .gl _, X, W, S, o, C, h => by
    unfold chkC at h
    cases h
  | .bin _ _ _, X, W, S, o, C, h => by
    unfold chkC at h
    cases h
  | .neg _, X, W, S, o, C, h => by
    unfold chkC at h
    cases h
  | .cmp _ _ _, X, W, S, o, C, h => by
    unfold chkC at h
    cases h
  | .chain _ _ _ _ _, X, W, S, o, C, h => by
    unfold chkC at h
    cases h
  | .and _ _, X, W, S, o, C, h => by
    unfold chkC at h
    cases h
  | .or _ _, X, W, S, o, C, h => by
    unfold chkC at h
    cases h
  | .not _, X, W, S, o, C, h => by
    unfold chkC at h
    cases h
  | .ite _ _ _, X, W, S, o, C, h => by
    unfold chkC at h
    cases h
  | .tup _, X, W, S, o, C, h => by
    unfold chkC at h
    cases h
  | .fz _, X, W, S, o, C, h => by
    unfold chkC at h
    cases h
  | .th _, X, W, S, o, C, h => by
    unfold chkC at h
    cases h
  | .sub _ _, X, W, S, o, C, h => by
    unfold chkC at h
    cases h
  | .slc _ _ _, X, W, S, o, C, h => by
    unfold chkC at h
    cases h
  | .call _ _, X, W, S, o, C, h => by
    unfold chkC at h
    cases h
  | .callv _ _, X, W, S, o, C, h => by
    unfold chkC at h
    cases h
  | .mk _ _, X, W, S, o, C, h => by
    unfold chkC at h
    cases h
  | .bif _ _, X, W, S, o, C, h => by
    unfold chkC at h
    cases h
  | .mth _ _ _, X, W, S, o, C, h => by
    unfold chkC at h
    cases h
  | .attr _ _, X, W, S, o, C, h => by
    unfold chkC at h
    cases h
  | .rev _, X, W, S, o, C, h => by
    unfold chkC at h
    cases h
  | .dnew, X, W, S, o, C, h => by
    unfold chkC at h
    cases h
  | .trg _, X, W, S, o, C, h => by
    unfold chkC at h
    cases h
  | .lrg _, X, W, S, o, C, h => by
    unfold chkC at h
    cases h
  | .anil, X, W, S, o, C, h => by
    unfold chkC at h
    cases h
  | .acons _ _, X, W, S, o, C, h => by
    unfold chkC at h
    cases h
  | .astar _ _, X, W, S, o, C, h => by
    unfold chkC at h
    cases h
  | .disp _, X, W, S, o, C, h => by
    unfold chkC at h
    cases h
  | .comp _ _ _ _ _, X, W, S, o, C, h => by
    unfold chkC at h
    cases h
  | .listof _, X, W, S, o, C, h => by
    unfold chkC at h
    cases h
  | .srt _ _, X, W, S, o, C, h => by
    unfold chkC at h
    cases h
  | .cat _ _, X, W, S, o, C, h => by
    unfold chkC at h
    cases h
  | .rep _ _, X, W, S, o, C, h => by
    unfold chkC at h
    cases h
  | .slf _ _ _, X, W, S, o, C, h => by
    unfold chkC at h
    cases h
  | .over _, X, W, S, o, C, h => by
    unfold chkC at h
    cases h
  | .range _, X, W, S, o, C, h => by
    unfold chkC at h
    cases h
  | .enum _, X, W, S, o, C, h => by
    unfold chkC at h
    cases h
  | .zip _ _, X, W, S, o, C, h => by
    unfold chkC at h
    cases h
end
end
end Mi
set_option Elab.async false
set_option linter.all false
set_option maxRecDepth 100000
set_option maxHeartbeats 4000000
namespace Mi
open PySem PySem.Spec PyProof.Rows L2
def swB (S : Sc) (x : Str) (p : Pos) (e : Expr) : Bool := match e with
  | .ListComp _ _ scope lp => plB S x && p.line == lp.line && !(scope.names.any fun (n, k) => n == x && (k == .local || k == .cell))
  | _ => false
theorem swaps_lc {elt : Expr} {gens : List Comprehension} {scope : Scope} {lp p : Pos} {x : Str} {l : Nat} {env : PySem.Env} (hk : env.scope.kind = .function) :
    swapsWith (.ListComp elt gens scope lp) (some (.Name x p)) l env = pure (env.kindOf x == some .local && p.line == lp.line && !(scope.names.any fun (n, k) => n == x && (k == .local || k == .cell))) := by
  have hb : env.blockKind = .function := by
    unfold Env.blockKind
    rw [hk]
    rfl
  unfold swapsWith
  dsimp only
  rw [hb]
  rfl
theorem execs_one {st : Stmt} {env : PySem.Env} : execs [st] env = exec st env := by
  have e : execs [st] env = (exec st env >>= fun f => pure f) := by
    rw [execs_cons]
    congr 1
    funext f
    cases f <;> rfl
  rw [e]
  exact bind_pure _
theorem ps_of {X : Cx} {st : Stmt} {t : TS} (h : PSs X [st] t) : PS X st t := ⟨fun pins s σ H D I q => by
  have z := h.run pins s σ H D I q
  rw [execs_one] at z
  exact z⟩
theorem plB_eq {S : Sc} {x : Str} {env : PySem.Env} (h : env.scope = S.sc) : (env.kindOf x == some .local) = plB S x := by
  unfold plB Env.kindOf
  rw [h]
  cases S.sc.names.lookup x with
  | none => rfl
  | some k => cases k <;> rfl
theorem swaps_swB {S : Sc} {elt : Expr} {gens : List Comprehension} {scope : Scope} {lp p : Pos} {x : Str} {l : Nat} {env : PySem.Env} (hk : env.scope.kind = .function) (e : env.scope = S.sc) :
    swapsWith (.ListComp elt gens scope lp) (some (.Name x p)) l env = pure (swB S x p (.ListComp elt gens scope lp)) := by
  rw [swaps_lc hk, plB_eq e]
  rfl
def isNames2 (S : Sc) (is : List Nat) (ts : List Expr) (n : Nat) : Bool := match is, ts with
  | [i, j], [.Name x _, .Name y _] => n == 2 && decide (i ≠ j) && plB S x && plB S y && slB S i x && slB S j y && decide (swNames S.sc (lineOf ts) ts = [x, y])
  | [i, j, l], [.Name x _, .Name y _, .Name z _] => n == 3 && decide (i ≠ j) && decide (i ≠ l) && decide (j ≠ l) && plB S x && plB S y && plB S z && slB S i x && slB S j y && slB S l z && decide (swNames S.sc (lineOf ts) ts = [x, y, z])
  | _, _ => false
def isFn (k : ScopeKind) : Bool := match k with
  | .function => true
  | _ => false
def chkS (D : Nm) (S : Sc) : St → List Stmt → Bool
  | .skip => fun l => match l with
    | [] => true
    | [.Pass _] => true
    | [.Expr (.Constant (.str _) _ _) _] => true
    | _ => false
  | .never => fun l => match l with
    | [_] => true
    | _ => false
  | .seq a b => fun l => match l with
    | s :: t :: r => chkS D S a [s] && chkS D S b (t :: r)
    | _ => false
  | .ex e => fun l => match l with
    | [.Expr e' _] => chkE D S e e' && !isLC e'
    | _ => false
  | .set i e => fun l => match l with
    | [.Assign [.Name x p] e' _] => slB S i x && locB S x && chkE D S e e' && (!isLC e' || (match e' with
      | .ListComp _ _ _ _ => (!swB S x p e') || (match e with
        | .fz f => chkF D S f e' && (match f with | .comp _ _ _ _ _ => true | _ => false)
        | .th f => chkF D S f e' && (match f with | .comp _ _ _ _ _ => true | _ => false)
        | _ => false)
      | _ => false))
    | _ => false
  | .par is as => fun l => match l with
    | [.Assign [.Tuple ts _ _] (.Tuple vs _ _) _] => chkTs S is ts && chkA D S as vs && decide (is.length ≤ 1000) && (decide (swK S.sc ts vs = 0) || (decide (swK S.sc ts vs = 1) && isNames2 S is ts vs.length))
    | _ => false
  | .unp is e => fun l => match l with
    | [.Assign [.Tuple ts _ _] e' _] => chkTs S is ts && chkE D S e e' && (!isTup e' || (match e' with
      | .Tuple vs _ _ => decide (swK S.sc ts vs = 0)
      | _ => false))
    | _ => false
  | .aug i o e => fun l => match l with
    | [.AugAssign (.Name x _) p e' _] => slB S i x && locB S x && opB o p && chkE D S e e'
    | _ => false
  | .sets o i e => fun l => match l with
    | [.Assign [.Subscript o' i' _] e' _] => chkE D S e e' && chkE D S o o' && chkE D S i i' && !isLC e' && !isTup e' && !isSlice i'
    | _ => false
  | .augs o i b e => fun l => match l with
    | [.AugAssign (.Subscript o' i' _) p e' _] => opB b p && chkE D S e e' && chkE D S o o' && chkE D S i i' && !isSlice i'
    | _ => false
  | .setf _ _ _ => fun _ => false
  | .ifs c a b => fun l => match l with
    | [.If c' as bs _] => chkE D S c c' && chkS D S a as && chkS D S b bs
    | _ => false
  | .fors tg it b => fun l => match l with
    | [.For t it' body [] _] => chkT S tg t && chkW D S it t it' && chkS D S b body && noSet it'
    | _ => false
  | .whiles c b => fun l => match l with
    | [.While c' body [] _] => chkE D S c c' && chkS D S b body
    | _ => false
  | .ret e => fun l => match l with
    | [.Return (some e') _] => chkE D S e e'
    | [.Return none _] => match e with
      | .non => true
      | _ => false
    | _ => false
  | .brk => fun l => match l with
    | [.Break _] => true
    | _ => false
  | .cnt => fun l => match l with
    | [.Continue _] => true
    | _ => false
  | .raise _ _ => fun _ => false
section
variable {Γ : Gm} {G : GT} {D : Nm} {cf : CF} {k : Nat}
theorem set_comp (V : Lv Γ G D cf k) {X : Cx} {W : WX} {S : Sc} (C : Cs X Γ W k S) (w : Bool) {i : Nat} {x : Str} {py spos : Pos} {own : List Nat} {tg : Tg} {it c el : Ex} {e : Expr} (hk : X.env.scope.kind = .function) (hi : slB S i x = true) (hsw : swB S x py e = true) (h : chkF D S (.comp own tg it c el) e = true) :
    PS X (.Assign [.Name x py] e spos) (tS Γ W fun env h => bnd (bnd (evF G cf (.comp own tg it c el) env h) (keepR w)) (asgR (.n i) env)) := by
  unfold chkF at h
  split at h
  · rename_i elt target iter ifs scope lp
    have hl : plB S x = true := by
      unfold swB at hsw
      simp only [Bool.and_eq_true] at hsw
      exact hsw.1.1
    simp only [Bool.and_eq_true] at h
    obtain ⟨⟨⟨⟨⟨⟨⟨h1, h2⟩, h3⟩, h4⟩, h5⟩, h6⟩, h7⟩, h8⟩ := h
    have h1 := of_decide_eq_true h1
    obtain ⟨g, hg⟩ := tg_of (Γ := Γ) (k := k) h5
    have z := s_setLc (w := w) (own := ownP S own) (pos := lp) (py := py) (spos := spos) C.c (sl_of C hi) (pl_of C hl) (by rw [swaps_swB hk C.sc, hsw]) (sndW V it C h6) (by rw [C.N, C.sc]; exact blkOk_by h2) (fun s H A cl fp => hg _ _ (C.blk _ s H A cl fp)) (fun s H A cl fp => sndC V c (C.blk _ s H A cl fp) h7) (fun s H A cl fp => (sndE V el (C.blk _ s H A cl fp) h8).1) (by rw [h1]; exact tgIn_of h3) (noSet_fold h4)
    rw [h1] at z
    exact z
  · cases h
theorem sndS (V : Lv Γ G D cf k) {X : Cx} {W : WX} {S : Sc} (C : Cs X Γ W k S) (hk : X.env.scope.kind = .function) (hp : PassesOwn (model X.prog X.w) X.A X.env X.xe) : ∀ (x : St) {l : List Stmt}, chkS D S x l = true → PSs X l (tS Γ W (evS G cf x))
  | .skip, l, h => by
    unfold chkS at h
    split at h
    · exact ss_nil
    · exact ss_one (s_skip ps_pass)
    · exact ss_one (s_skip ps_doc)
    · cases h
  | .never, l, h => by
    unfold chkS at h
    split at h
    · exact ss_one ⟨fun pins s σ H D I ⟨_, _, _, _, _, _, k⟩ => k.elim⟩
    · cases h
  | .seq a b, l, h => by
    have qa := fun {l} => sndS V C hk hp a (l := l)
    have qb := fun {l} => sndS V C hk hp b (l := l)
    unfold chkS at h
    split at h
    · rw [Bool.and_eq_true] at h
      exact ss_cons (ps_of (qa h.1)) (qb h.2)
    · cases h
  | .ex e, l, h => by
    unfold chkS at h
    split at h
    · simp only [Bool.and_eq_true, Bool.not_eq_true'] at h
      exact ss_one (s_expr (sndE V e C h.1).1 h.2)
    · cases h
  | .set i e, l, h => by
    unfold chkS at h
    split at h
    · rename_i x p e' pos
      simp only [Bool.and_eq_true] at h
      obtain ⟨⟨⟨h1, h2⟩, h3⟩, h4⟩ := h
      obtain ⟨a, b⟩ := loc_of C h2
      rw [Bool.or_eq_true] at h4
      rcases h4 with h4 | h4
      · exact ss_one (s_set C.c (sl_of C h1) a b (sndE V e C h3).1 (swaps_no (by simpa using h4)))
      · split at h4
        · rename_i elt gens scope lp
          rw [Bool.or_eq_true] at h4
          by_cases hs : swB S x p (.ListComp elt gens scope lp) = true
          · rcases h4 with h4 | h4
            · rw [hs] at h4
              cases h4
            · split at h4
              · rename_i f
                rw [Bool.and_eq_true] at h4
                obtain ⟨h5, h6⟩ := h4
                split at h6
                · exact ss_one (set_comp V C false hk h1 hs h5)
                · cases h6
              · rename_i f
                rw [Bool.and_eq_true] at h4
                obtain ⟨h5, h6⟩ := h4
                split at h6
                · exact ss_one (set_comp V C true hk h1 hs h5)
                · cases h6
              · cases h4
          · refine ss_one (s_set C.c (sl_of C h1) a b (sndE V e C h3).1 ?_)
            rw [swaps_swB hk C.sc]
            have hs : swB S x p (.ListComp elt gens scope lp) = false := by simpa using hs
            rw [hs]
        · cases h4
    · cases h
  | .par is as, l, h => by
    unfold chkS at h
    split at h
    · rename_i ts k1 p1 vs k2 p2 pos
      simp only [Bool.and_eq_true] at h
      obtain ⟨⟨⟨h1, h2⟩, h3⟩, h4⟩ := h
      have qa := sndA V as C h2
      obtain ⟨sw0, sw1⟩ := sw_eq (ts := ts) (vs := vs) (k := k1) (k2 := k2) (p := p1) (p2 := p2) hk
      rw [C.sc] at sw0 sw1
      rw [Bool.or_eq_true] at h4
      rcases h4 with h4 | h4
      · obtain ⟨g, g1, g2, g3⟩ := tg_many (Γ := Γ) (k := k) h1
        exact ss_one (s_parA C.c (g1 X W C) g2 g3 (of_decide_eq_true h3) qa (sw0 (of_decide_eq_true h4)))
      · rw [Bool.and_eq_true] at h4
        have sw := sw1 (of_decide_eq_true h4.1)
        have h5 := h4.2
        unfold isNames2 at h5
        split at h5
        · simp only [Bool.and_eq_true] at h5
          obtain ⟨⟨⟨⟨⟨⟨a1, a2⟩, a3⟩, a4⟩, a5⟩, a6⟩, a7⟩ := h5
          rw [of_decide_eq_true a7] at sw
          match vs, qa, a1, sw with
          | [v1, v2], qa, _, sw => exact ss_one (s_par2 C.c (sl_of C a5) (sl_of C a6) (of_decide_eq_true a2) (pl_of C a3) (pl_of C a4) qa sw)
          | [], _, a1, _ => simp at a1
          | [_], _, a1, _ => simp at a1
          | _ :: _ :: _ :: _, _, a1, _ => simp at a1
        · simp only [Bool.and_eq_true] at h5
          obtain ⟨⟨⟨⟨⟨⟨⟨⟨⟨⟨a1, a2⟩, a3⟩, a4⟩, a5⟩, a6⟩, a7⟩, a8⟩, a9⟩, b1⟩, b2⟩ := h5
          rw [of_decide_eq_true b2] at sw
          match vs, qa, a1, sw with
          | [v1, v2, v3], qa, _, sw => exact ss_one (s_par3 C.c (sl_of C a8) (sl_of C a9) (sl_of C b1) (of_decide_eq_true a2) (of_decide_eq_true a3) (of_decide_eq_true a4) (pl_of C a5) (pl_of C a6) (pl_of C a7) qa sw)
          | [], _, a1, _ => simp at a1
          | [_], _, a1, _ => simp at a1
          | [_, _], _, a1, _ => simp at a1
          | _ :: _ :: _ :: _ :: _, _, a1, _ => simp at a1
        · cases h5
    · cases h
  | .unp is e, l, h => by
    unfold chkS at h
    split at h
    · rename_i ts k1 p1 e' pos
      simp only [Bool.and_eq_true] at h
      obtain ⟨⟨h1, h2⟩, h3⟩ := h
      obtain ⟨g, g1, g2, g3⟩ := tg_many (Γ := Γ) (k := k) h1
      have qe := (sndE V e C h2).1
      have hg := tg_tup C.c (g1 X W C) g2 g3 (k := k1) (pos := p1)
      rw [Bool.or_eq_true] at h3
      rcases h3 with h3 | h3
      · exact ss_one (s_asg qe hg swaps_tup (swapped_no (by simpa using h3)) rfl)
      · split at h3
        · rename_i vs k2 p2
          obtain ⟨sw0, sw1⟩ := sw_eq (ts := ts) (vs := vs) (k := k1) (k2 := k2) (p := p1) (p2 := p2) hk
          rw [C.sc] at sw0 sw1
          exact ss_one (s_asg qe hg swaps_tup (sw0 (of_decide_eq_true h3)) rfl)
        · cases h3
    · cases h
  | .aug i o e, l, h => by
    unfold chkS at h
    split at h
    · simp only [Bool.and_eq_true] at h
      obtain ⟨⟨⟨h1, h2⟩, h3⟩, h4⟩ := h
      obtain ⟨a, b⟩ := loc_of C h2
      cases opB_eq h3
      exact ss_one (s_aug C.c (sl_of C h1) a b (sndE V e C h4).1)
    · cases h
  | .sets o i e, l, h => by
    unfold chkS at h
    split at h
    · simp only [Bool.and_eq_true, Bool.not_eq_true'] at h
      obtain ⟨⟨⟨⟨⟨h1, h2⟩, h3⟩, h4⟩, h5⟩, h6⟩ := h
      exact ss_one (s_sets C.c (sndE V e C h1).1 (sndE V o C h2).1 (sndE V i C h3).1 h4 h5 h6)
    · cases h
  | .augs o i b e, l, h => by
    unfold chkS at h
    split at h
    · simp only [Bool.and_eq_true, Bool.not_eq_true'] at h
      obtain ⟨⟨⟨⟨h1, h2⟩, h3⟩, h4⟩, h5⟩ := h
      cases opB_eq h1
      exact ss_one (s_augs C.c (sndE V e C h2).1 (sndE V o C h3).1 (sndE V i C h4).1 h5)
    · cases h
  | .setf _ _ _, l, h => by
    unfold chkS at h
    cases h
  | .ifs c a b, l, h => by
    have qa := fun {l} => sndS V C hk hp a (l := l)
    have qb := fun {l} => sndS V C hk hp b (l := l)
    unfold chkS at h
    split at h
    · simp only [Bool.and_eq_true] at h
      obtain ⟨⟨h1, h2⟩, h3⟩ := h
      exact ss_one (s_if (sndE V c C h1).2 (qa h2) (qb h3))
    · cases h
  | .fors tg it b, l, h => by
    have qb := fun {l} => sndS V C hk hp b (l := l)
    unfold chkS at h
    split at h
    · simp only [Bool.and_eq_true] at h
      obtain ⟨⟨⟨h1, h2⟩, h3⟩, h4⟩ := h
      obtain ⟨g, hg⟩ := tg_of (Γ := Γ) (k := k) h1
      exact ss_one (s_for C.c hp (sndW V it C h2) (hg X W C) (qb h3) (noSet_fold h4))
    · cases h
  | .whiles c b, l, h => by
    have qb := fun {l} => sndS V C hk hp b (l := l)
    unfold chkS at h
    split at h
    · simp only [Bool.and_eq_true] at h
      exact ss_one (s_while C.c hp (sndE V c C h.1).2 (qb h.2))
    · cases h
  | .ret e, l, h => by
    unfold chkS at h
    split at h
    · exact ss_one (s_ret (sndE V e C h).1)
    · split at h
      · exact ss_one s_retN
      · cases h
    · cases h
  | .brk, l, h => by
    unfold chkS at h
    split at h
    · exact ss_one s_brk
    · cases h
  | .cnt, l, h => by
    unfold chkS at h
    split at h
    · exact ss_one s_cnt
    · cases h
  | .raise _ _, l, h => by
    unfold chkS at h
    cases h
end
end Mi
set_option Elab.async false
set_option linter.all false
set_option maxRecDepth 100000
set_option maxHeartbeats 4000000
namespace Mi
open PySem PySem.Spec PyProof.Rows L2
section
variable {Γ : Gm} {L m t : List Addr} {H : Hp}
theorem not_mem_left {a : Addr} (h : a ∉ m ++ t) : a ∉ m := fun z => h (List.mem_append_left _ z)
mutual
theorem RepV.shrink : ∀ {x : Vl} {v : V}, wfV m.length x = true → RepV Γ L (m ++ t) H x v → RepV Γ L m H x v
  | .non, _, _, h => h
  | .bl _, _, _, h => h
  | .int _, _, _, h => h
  | .str _, _, _, h => h
  | .tup _, _, w, h => by
    obtain ⟨a, us, e, q, r⟩ := h
    exact ⟨a, us, e, q, RepL.shrink w r⟩
  | .lst _, _, w, h => by
    obtain ⟨a, us, e, q, n, n2, r⟩ := h
    exact ⟨a, us, e, q, not_mem_left n, n2, RepL.shrink w r⟩
  | .scr _, _, w, h => by
    obtain ⟨a, us, e, q, r⟩ := h
    exact ⟨a, us, e, q, RepL.shrink w r⟩
  | .ins _ _, _, w, h => by
    obtain ⟨a, dx, vs, us, e, q, n1, n2, n3, n4, f, r⟩ := h
    exact ⟨a, dx, vs, us, e, q, not_mem_left n1, n2, not_mem_left n3, n4, f, RepL.shrink w r⟩
  | .dct _, _, _, h => h.elim
  | .ref n, _, w, h => by
    obtain ⟨a, e, q⟩ := h
    rw [List.getElem?_append_left (of_decide_eq_true (show decide (n < m.length) = true from w))] at q
    exact ⟨a, e, q⟩
  | .fn _, _, _, h => h
  | .clo _, _, _, h => h.elim
theorem RepL.shrink : ∀ {xs : List Vl} {vs : List V}, wfL m.length xs = true → RepL Γ L (m ++ t) H xs vs → RepL Γ L m H xs vs
  | [], [], _, _ => trivial
  | x :: xs, _ :: _, w, h => by
    unfold wfL at w
    split at w
    · rename_i w1
      exact ⟨RepV.shrink w1 h.1, RepL.shrink w h.2⟩
    · cases w
  | [], _ :: _, _, h => h.elim
  | _ :: _, [], _, h => h.elim
end
theorem RepKs.shrink : ∀ {kvs : List (Vl × Vl)} {us : List (Key × V)}, wfK m.length kvs = true → RepKs Γ L (m ++ t) H kvs us → RepKs Γ L m H kvs us
  | [], [], _, _ => trivial
  | (a, x) :: _, (_, _) :: _, w, h => by
    unfold wfK at w
    split at w
    · split at w
      · rename_i w1
        exact ⟨h.1, RepV.shrink w1 h.2.1, RepKs.shrink w h.2.2⟩
      · cases w
    · cases w
  | [], _ :: _, _, h => h.elim
  | _ :: _, [], _, h => h.elim
theorem wfF_get : ∀ {xs : List (Option Vl)} {n0 i : Nat} {x : Vl}, wfF n0 xs = true → xs[i]? = some (some x) → wfV n0 x = true
  | [], _, _, _, _, e => by simp at e
  | none :: r, n0, 0, x, w, e => by simp at e
  | none :: r, n0, i + 1, x, w, e => wfF_get (xs := r) (i := i) w (by simpa using e)
  | some y :: r, n0, 0, x, w, e => by
    unfold wfF at w
    split at w
    · rename_i w1
      simp at e
      subst e
      exact w1
    · cases w
  | some y :: r, n0, i + 1, x, w, e => by
    unfold wfF at w
    split at w
    · exact wfF_get (xs := r) (i := i) w (by simpa using e)
    · cases w
theorem RepO.shrink {o : Ob} {a : Addr} (w : wfO m.length o = true) (h : RepO Γ L (m ++ t) H o a) : RepO Γ L m H o a := by
  cases o with
  | lst xs => obtain ⟨us, e, r⟩ := h; exact ⟨us, e, RepL.shrink w r⟩
  | dct kvs => obtain ⟨us, e, r⟩ := h; exact ⟨us, e, RepKs.shrink w r⟩
  | ins c xs =>
    obtain ⟨dx, vs, q, n1, n2, f⟩ := h
    refine ⟨dx, vs, q, not_mem_left n1, n2, fun i x hx => ?_⟩
    obtain ⟨u, h1, h2⟩ := f i x hx
    exact ⟨u, h1, RepV.shrink (wfF_get w hx) h2⟩
theorem wfH_get : ∀ {h : Hh} {n0 i : Nat} {o : Ob}, wfH n0 h = true → h[i]? = some o → wfO n0 o = true
  | [], _, _, _, _, e => by simp at e
  | x :: r, n0, 0, o, w, e => by
    unfold wfH at w
    split at w
    · rename_i w1
      simp at e
      subst e
      exact w1
    · cases w
  | x :: r, n0, i + 1, o, w, e => by
    unfold wfH at w
    split at w
    · exact wfH_get (h := r) (i := i) w (by simpa using e)
    · cases w
theorem RepH.shrink {h : Hh} (r : RepH Γ L (m ++ t) h H) (w : wfH m.length (h.take m.length) = true) : RepH Γ L m (h.take m.length) H where
  len := by
    have := r.len
    rw [List.length_append] at this
    rw [List.length_take]
    omega
  nd := (List.nodup_append.mp r.nd).1
  ap := fun a ha => r.ap a (List.mem_append_left _ ha)
  ob := fun i a o e1 e2 => by
    have hi := (List.getElem?_eq_some_iff.mp e1).1
    refine RepO.shrink (wfH_get w e2) (r.ob i a o (by rw [List.getElem?_append_left hi]; exact e1) ?_)
    rw [List.getElem?_take] at e2
    rw [if_pos hi] at e2
    exact e2
  res := r.res
theorem mapO_rep {f : Vl → Option Vl} (hf : ∀ x y u, f x = some y → RepV Γ L (m ++ t) H x u → RepV Γ L m H y u) : ∀ {xs ys : List Vl} {us : List V}, mapO f xs = some ys → RepL Γ L (m ++ t) H xs us → RepL Γ L m H ys us
  | [], ys, [], e, _ => by cases Option.some.inj e; exact trivial
  | [], _, _ :: _, _, r => r.elim
  | _ :: _, _, [], _, r => r.elim
  | x :: xs, ys, u :: us, e, r => by
    unfold mapO at e
    split at e
    · rename_i y hy
      split at e
      · rename_i l hl
        cases Option.some.inj e
        exact ⟨hf _ _ _ hy r.1, mapO_rep hf hl r.2⟩
      · cases e
    · cases e
theorem frV_rep {h : Hh} (rh : RepH Γ L (m ++ t) h H) : ∀ (k : Nat) (v y : Vl) (u : V), frV h m.length k v = some y → RepV Γ L (m ++ t) H v u → RepV Γ L m H y u
  | 0, v, y, u, e, _ => by cases e
  | k + 1, v, y, u, e, r => by
    have ih := frV_rep rh k
    unfold frV at e
    split at e
    · split at e
      · rename_i l hl
        cases Option.some.inj e
        obtain ⟨a, us, e, q, r⟩ := r
        exact ⟨a, us, e, q, mapO_rep (fun x y u => ih x y u) hl r⟩
      · cases e
    · split at e
      · rename_i l hl
        cases Option.some.inj e
        obtain ⟨a, us, e, q, n, n2, r⟩ := r
        exact ⟨a, us, e, q, not_mem_left n, n2, mapO_rep (fun x y u => ih x y u) hl r⟩
      · cases e
    · split at e
      · rename_i l hl
        cases Option.some.inj e
        obtain ⟨a, dx, vs, us, e, q, n1, n2, n3, n4, f, r⟩ := r
        exact ⟨a, dx, vs, us, e, q, not_mem_left n1, n2, not_mem_left n3, n4, f, mapO_rep (fun x y u => ih x y u) hl r⟩
      · cases e
    · rename_i n
      obtain ⟨a, ea, q⟩ := r
      split at e
      · rename_i hn
        cases Option.some.inj e
        rw [List.getElem?_append_left hn] at q
        exact ⟨a, ea, q⟩
      · rename_i hn
        split at e
        · rename_i xs hx
          split at e
          · rename_i l hl
            cases Option.some.inj e
            obtain ⟨us, e2, rr⟩ := rh.at_ q hx
            refine ⟨a, us, ea, e2, fun z => ?_, rh.ap a (List.mem_of_getElem? q), mapO_rep (fun x y u => ih x y u) hl rr⟩
            rw [List.getElem?_append_right (by omega)] at q
            exact (List.nodup_append.mp rh.nd).2.2 a z a (List.mem_of_getElem? q) rfl
          · cases e
        · cases e
    · cases e
    · cases e
    · cases e
    · cases Option.some.inj e
      cases v with
      | non => exact r
      | bl b => exact r
      | int i => exact r
      | str s => exact r
      | fn g => exact r
      | tup xs => rename_i h1 _ _ _ _ _ _; exact absurd rfl (h1 xs)
      | lst xs => rename_i _ h1 _ _ _ _ _; exact absurd rfl (h1 xs)
      | ins c xs => rename_i _ _ h1 _ _ _ _; exact absurd rfl (h1 c xs)
      | ref n => rename_i _ _ _ h1 _ _ _; exact absurd rfl (h1 n)
      | scr xs => rename_i _ _ _ _ h1 _ _; exact absurd rfl (h1 xs)
      | dct xs => exact r.elim
      | clo k => exact r.elim
theorem fin_ok {W : WX} {σ : L2.St} {frz : Bool} {n0 : Nat} {v : Vl} {h h' : Hh} {Q : VK} (rh0 : RepH Γ L m h H) (hn : n0 = h.length) (k : okG Γ W L m H σ (fun m' H' => RepV Γ L m' H') (fin frz n0 v h') Q) :
    ∀ m' H' u, Grow m H m' H' → RepH Γ L m' h' H' → RepV Γ L m' H' v u → Q u H' := by
  intro m' H' u g rh rv
  unfold fin at k
  split at k
  · exact k m' H' u g rh rv
  · split at k
    · exact k m' H' u g rh rv
    · split at k
      · rename_i y hy
        split at k
        · split at k
          · rename_i hw
            obtain ⟨t, rfl, _⟩ := g.ext
            have e : n0 = m.length := by rw [hn, rh0.len]
            subst e
            exact k m H' u ⟨⟨[], by simp, fun _ z => nomatch z⟩, g.keep, g.tup, g.frz, g.own⟩ (rh.shrink hw) (frV_rep rh _ _ _ _ hy rv)
          · exact k.elim
        · exact k.elim
      · exact k.elim
theorem finX_ok {W : WX} {σ : L2.St} {n0 : Nat} {c : Nat} {p : Option Vl} {h h' : Hh} {Q : VK} (rh0 : RepH Γ L m h H) (hn : n0 = h.length) (k : okG Γ W L m H σ (fun m' H' => RepV Γ L m' H') (finX n0 c p h') Q) :
    ∀ m' H' d, Grow m H m' H' → RepH Γ L m' h' H' → RepX Γ L m' H' c p d → W (.ref (Γ.xa c)) d σ H' := by
  intro m' H' d g rh rx
  unfold finX at k
  split at k
  · exact k m' H' d g rh rx
  · have e : n0 = m.length := by rw [hn, rh0.len]
    subst e
    obtain ⟨t, rfl, _⟩ := g.ext
    have g' : Grow m H m H' := ⟨⟨[], by simp, fun _ z => nomatch z⟩, g.keep, g.tup, g.frz, g.own⟩
    split at k
    · split at k
      · rename_i hw
        exact k m H' d g' (rh.shrink hw) trivial
      · exact k.elim
    · split at k
      · rename_i y hy
        split at k
        · split at k
          · rename_i hw
            obtain ⟨a, u, e1, e2, e3⟩ := rx
            exact k m H' d g' (rh.shrink hw) ⟨a, u, e1, e2, frV_rep rh _ _ _ _ hy e3⟩
          · exact k.elim
        · exact k.elim
      · exact k.elim
end
structure DefOk (Γ : Gm) (D : Nm) (d : FD) (a : Addr) : Prop where
  ex : ∃ x qual st fd N ps, Fun Γ.K x qual st a fd ∧ FnScope N ps (defScope st) ∧ Binds Γ.K fd ps [] ∧ ps.length = d.ar ∧ N.length = d.sl ∧ chkS D ⟨N, defScope st, none⟩ d.body (defBody st) = true
structure Tb (Γ : Gm) (G : GT) (D : Nm) (ft : Nat → Option FD) : Prop where
  fn : ∀ x f, D.fns.lookup x = some f → Γ.mg x = some (.ref (Γ.fa f))
  gv : ∀ x g, D.gvs.lookup x = some g → ∃ v u w, G.gv g = some v ∧ Γ.mg x = some w ∧ RelV u w ∧ ∀ L m H, RepV Γ L m H v u
  nb : ∀ x, x ∈ bNames → Γ.mg x = none
  ow : ∀ c, Γ.cok c = true → OwnOk Γ c
  df : ∀ f d, ft f = some d → DefOk Γ D d (Γ.fa f)
  no : ∀ f, ft f = none → PySem.W.keepIn Γ.K (.ref (Γ.fa f)) = true ∧ ∃ fd ps, Binds Γ.K fd ps []
theorem start_rep {Γ : Gm} {L m : List Addr} {H : Hp} {args : List Vl} {vs : List V} {N : List Str} {n : Nat} (r : RepL Γ L m H args vs) (hn : N.length = n) : RepE Γ L m H (args.map some ++ List.replicate (n - args.length) none) (L2.start N vs) := by
  unfold L2.start
  rw [← r.length, hn]
  refine ⟨by simp only [List.length_append, List.length_map, List.length_replicate, r.length], fun i v e => ?_⟩
  by_cases hi : i < args.length
  · rw [List.getElem?_append_left (by rw [List.length_map]; exact hi)] at e
    rw [List.getElem?_map] at e
    cases ha : args[i]? with
    | none => rw [ha] at e; cases e
    | some w =>
      rw [ha] at e
      cases Option.some.inj (Option.some.inj e)
      obtain ⟨u, h1, h2⟩ := r.get ha
      refine ⟨u, ?_, h2⟩
      rw [List.getElem?_append_left (by rw [List.length_map, ← r.length]; exact hi), List.getElem?_map, h1]
      rfl
  · rw [List.getElem?_append_right (by rw [List.length_map]; omega)] at e
    have := List.mem_of_getElem? e
    rw [List.mem_replicate] at this
    cases this.2
theorem fnS {Γ : Gm} {G : GT} {D : Nm} {ft : Nat → Option FD} {n f : Nat} {d : FD} {x qual : Str} {st : Stmt} {fd : FuncData} {N ps : List Str} (V : Lv Γ G D (run G ft n) (2 * n)) (hf : ft f = some d) (F : Fun Γ.K x qual st (Γ.fa f) fd) (S : FnScope N ps (defScope st)) (h3 : ps.length = d.ar) (h4 : N.length = d.sl)
    (h5 : chkS D ⟨N, defScope st, none⟩ d.body (defBody st) = true) : FnOk Γ.P Γ.w Γ.K Γ.mg Γ.base (L2.CX Γ.P Γ.w) (2 * n + 1) (Γ.fa f) fd ps (spC Γ (run G ft (n + 1)) f) := by
  have open_ : ∀ {vs H Q E}, spC Γ (run G ft (n + 1)) f vs H Q E → ∃ L m h args, RepH Γ L m h H ∧ RepL Γ L m H args vs ∧ args.length = d.ar ∧ okG Γ (fun c d _ H' => E c d H') L m H [] (fun m' H' => RepV Γ L m' H') (endF d.frz h.length (evS G (run G ft n) d.body (args.map some ++ List.replicate (d.sl - d.ar) none) h)) Q := fun ⟨L, m, h, args, rh, ra, k⟩ => by
    unfold run at k
    rw [hf] at k
    dsimp only at k
    split at k
    · rename_i hl
      exact ⟨L, m, h, args, rh, ra, of_decide_eq_true hl, k⟩
    · exact k.elim
  refine Fun.okX (k := 2 * n) F S (fun vs H Q E z => ?_) fun cdv A outer s H vs Q E hr z => ?_
  · obtain ⟨L, m, h, args, rh, ra, hl, _⟩ := open_ z
    rw [← ra.length, hl, h3]
  · obtain ⟨L, m, h, args, rh, ra, hl, k⟩ := open_ z
    let W : WX := fun c d _ H' => E c d H'
    have C : Cn (cxOf (L2.CX Γ.P Γ.w) Γ.P Γ.w Γ.K Γ.mg Γ.base N qual (defScope st) (Γ.fa f) cdv A outer s H E) Γ W := ⟨rfl, rfl, rfl, rfl, rfl, rfl, S.nd, hr.units, takes_of rfl rfl rfl rfl⟩
    refine ⟨tS Γ W (evS G (run G ft n) d.body), sndS V (k := 2 * n) (S := ⟨N, defScope st, none⟩) ⟨C, rfl, rfl, fun _ => rfl, hr⟩ S.kind (passes_of rfl) d.body h5, L, m, h, args.map some ++ List.replicate (d.sl - d.ar) none, rh, ?_, ?_⟩
    · rw [← hl]
      exact start_rep ra h4
    · cases hr2 : evS G (run G ft n) d.body (args.map some ++ List.replicate (d.sl - d.ar) none) h with
      | bad =>
        rw [hr2] at k
        exact k
      | exc c p h' =>
        rw [hr2] at k
        exact fun m' H' d σ' g rh' rx => finX_ok rh rfl k m' H' d g rh' rx
      | ok o h' =>
        rw [hr2] at k
        cases o with
        | nx env => exact fun m' H' σ' g rh' re => fin_ok rh rfl k m' H' .non g rh' rfl
        | rt v => exact fun m' H' u g rh' rv => fin_ok rh rfl k m' H' u g rh' rv
        | bk env => exact k.elim
        | ct env => exact k.elim
theorem fnI {Γ : Gm} {G : GT} {D : Nm} {ft : Nat → Option FD} (T : Tb Γ G D ft) : ∀ n f, FnI Γ (run G ft n) (2 * n) f
  | 0, f => by
    have no : ∀ {vs H Q E}, ¬ spC Γ (run G ft 0) f vs H Q E := fun ⟨_, _, _, _, _, _, k⟩ => k
    cases hf : ft f with
    | none =>
      obtain ⟨h1, fd, ps, h2⟩ := T.no f hf
      exact ⟨h1, fd, ps, ⟨fun vs H Q E z => (no z).elim, fun A outer s H a us vs Q E _ _ _ _ z => (no z).elim⟩, h2⟩
    | some d =>
      obtain ⟨x, qual, st, fd, N, ps, F, _, h2, _⟩ := (T.df f d hf).ex
      exact ⟨F.kp, fd, ps, ⟨fun vs H Q E z => (no z).elim, fun A outer s H a us vs Q E _ _ _ _ z => (no z).elim⟩, h2⟩
  | n + 1, f => by
    cases hf : ft f with
    | none =>
      obtain ⟨h1, fd, ps, h2⟩ := T.no f hf
      have no : ∀ {vs H Q E}, ¬ spC Γ (run G ft (n + 1)) f vs H Q E := fun ⟨_, _, _, _, _, _, k⟩ => by
        unfold run at k
        rw [hf] at k
        exact k
      exact ⟨h1, fd, ps, ⟨fun vs H Q E z => (no z).elim, fun A outer s H a us vs Q E _ _ _ _ z => (no z).elim⟩, h2⟩
    | some d =>
      obtain ⟨x, qual, st, fd, N, ps, F, S, h2, h3, h4, h5⟩ := (T.df f d hf).ex
      have V : Lv Γ G D (run G ft n) (2 * n) := ⟨T.fn, fun f => fnI T n f, T.gv, T.nb, T.ow⟩
      exact ⟨F.kp, fd, ps, (fnS V hf F S h3 h4 h5).mono (by omega), h2⟩
theorem lvI {Γ : Gm} {G : GT} {D : Nm} {ft : Nat → Option FD} (T : Tb Γ G D ft) (n : Nat) : Lv Γ G D (run G ft n) (2 * n) := ⟨T.fn, fun f => fnI T n f, T.gv, T.nb, T.ow⟩
end Mi
set_option Elab.async false
set_option linter.all false
set_option maxRecDepth 100000
set_option maxHeartbeats 4000000
namespace Mi
open PySem PySem.Spec PyProof.Rows L2
structure DK (K : PySem.W.Frag) (x : Str) (st : Stmt) (a : Addr) : Prop where
  ns : PySem.W.nsIn K mainGlobals x = some (some (.ref a))
  fn : ∃ fd, Fun K x x st a fd
def AllD (K : PySem.W.Frag) : List (Str × Stmt) → Prop
  | [] => True
  | (x, s) :: r => (∃ a, DK K x s a) ∧ AllD K r
def CV (K : PySem.W.Frag) (x : Str) (v : Vl) : Prop := ∃ u w, PySem.W.nsIn K mainGlobals x = some (some w) ∧ RelV u w ∧ ∀ (Γ : Gm) L m H, Γ.K = K → RepV Γ L m H v u
theorem CV.int {K : PySem.W.Frag} {x : Str} {i : Int} {t : Tok} (h : PySem.W.nsIn K mainGlobals x = some (some (.int i t))) : CV K x (.int i) := ⟨.int i, .int i t, h, ⟨t, rfl⟩, fun _ _ _ _ _ => rfl⟩
theorem CV.str {K : PySem.W.Frag} {x : Str} {s : List Nat} {t : Tok} (h : PySem.W.nsIn K mainGlobals x = some (some (.str ⟨s.toArray⟩ t))) : CV K x (.str s) := ⟨.str ⟨s.toArray⟩, .str ⟨s.toArray⟩ t, h, ⟨t, rfl⟩, fun _ _ _ _ _ => rfl⟩
theorem CV.bl {K : PySem.W.Frag} {x : Str} {b : Bool} (h : PySem.W.nsIn K mainGlobals x = some (some (.bool b))) : CV K x (.bl b) := ⟨.bl b, .bool b, h, rfl, fun _ _ _ _ _ => rfl⟩
theorem CV.non {K : PySem.W.Frag} {x : Str} (h : PySem.W.nsIn K mainGlobals x = some (some .none)) : CV K x .non := ⟨.non, .none, h, rfl, fun _ _ _ _ _ => rfl⟩
def AllV (K : PySem.W.Frag) : List (Str × Vl) → Prop
  | [] => True
  | (x, v) :: r => CV K x v ∧ AllV K r
def AllN (K : PySem.W.Frag) : List Str → Prop
  | [] => True
  | x :: r => PySem.W.nsIn K mainGlobals x = some none ∧ AllN K r
theorem AllD.get {K : PySem.W.Frag} : ∀ {l : List (Str × Stmt)} {i : Nat} {x : Str} {s : Stmt}, AllD K l → l[i]? = some (x, s) → ∃ a, DK K x s a
  | [], _, _, _, _, e => by simp at e
  | (y, t) :: r, 0, x, s, h, e => by
    simp at e
    obtain ⟨rfl, rfl⟩ := e
    exact h.1
  | (y, t) :: r, i + 1, x, s, h, e => AllD.get (l := r) (i := i) h.2 (by simpa using e)
theorem AllV.get {K : PySem.W.Frag} : ∀ {l : List (Str × Vl)} {i : Nat} {x : Str} {v : Vl}, AllV K l → l[i]? = some (x, v) → CV K x v
  | [], _, _, _, _, e => by simp at e
  | (y, t) :: r, 0, x, s, h, e => by
    simp at e
    obtain ⟨rfl, rfl⟩ := e
    exact h.1
  | (y, t) :: r, i + 1, x, s, h, e => AllV.get (l := r) (i := i) h.2 (by simpa using e)
theorem AllN.mem {K : PySem.W.Frag} : ∀ {l : List Str} {x : Str}, AllN K l → x ∈ l → PySem.W.nsIn K mainGlobals x = some none
  | y :: r, x, h, e => by
    rcases List.mem_cons.mp e with rfl | e
    · exact h.1
    · exact AllN.mem h.2 e
def numb (n : Nat) : List Str → List (Str × Nat)
  | [] => []
  | x :: r => (x, n) :: numb (n + 1) r
theorem numb_get : ∀ {l : List Str} {n : Nat} {x : Str} {i : Nat}, (numb n l).lookup x = some i → n ≤ i ∧ l[i - n]? = some x
  | [], _, _, _, e => by cases e
  | y :: r, n, x, i, e => by
    have e : ((y, n) :: numb (n + 1) r).lookup x = some i := e
    rw [List.lookup_cons] at e
    cases hb : x == y with
    | true =>
      rw [hb] at e
      cases Option.some.inj e
      have := eq_of_beq hb
      subst this
      exact ⟨Nat.le_refl _, by simp⟩
    | false =>
      rw [hb] at e
      obtain ⟨h1, h2⟩ := numb_get (l := r) (n := n + 1) e
      refine ⟨by omega, ?_⟩
      have : i - n = (i - (n + 1)) + 1 := by omega
      rw [this]
      exact h2
structure DS (D : Nm) (d : FD) (x : Str) (st : Stmt) (N ps : List Str) : Prop where
  sc : FnScope N ps (defScope st)
  bd : ∀ (kV doc pm : Value) (an : Option Addr) (cdv ct : Value) (us : List Value), us.length = ps.length → bindArgs (PySem.W.fnOf x x (defArgs st) (defBody st) (defScope st) .none kV doc pm an cdv ct) ⟨us, []⟩ = pure (ps.zip us)
  ar : ps.length = d.ar
  sl : N.length = d.sl
  ck : chkS D ⟨N, defScope st, none⟩ d.body (defBody st) = true
structure TT' where
  d : FD
  x : Str
  st : Stmt
def mkD (tab : List TT') (cs : List (Str × Vl)) : Nm := { fns := numb 0 (tab.map (·.x)), gvs := numb 0 (cs.map (·.1)) ++ numb cs.length (tab.map (·.x)) }
def gvF (n : Nat) (cs : List Vl) (g : Nat) : Option Vl := match cs[g]? with
  | some v => some v
  | none => match decide (g < n + cs.length) with
    | true => some (.fn (g - cs.length))
    | false => none
def mkG (n : Nat) (cs : List Vl) : GT := ⟨gvF n cs, fun _ _ => none, fun _ => none, fun _ => none⟩
def mkF (ds : List FD) : Nat → Option FD := fun f => ds[f]?
theorem lookup_app {α : Type} {l r : List (Str × α)} {x : Str} {v : α} (h : (l ++ r).lookup x = some v) : l.lookup x = some v ∨ r.lookup x = some v := by
  induction l with
  | nil => exact .inr h
  | cons y l ih =>
    obtain ⟨k, u⟩ := y
    have h : ((k, u) :: (l ++ r)).lookup x = some v := h
    rw [List.lookup_cons] at h ⊢
    cases hb : x == k with
    | true => rw [hb] at h; exact .inl h
    | false => rw [hb] at h; exact ih h
def spLaw (K : PySem.W.Frag) : Sp := fun vs H Q _ => ∃ (a : Addr) (ns : List Int), vs = [.ref a] ∧ ns.length ≤ 63 ∧ Only H ∧ SqL K H a (ns.map V.int) ∧ ∀ H', Q (.bl true) H'
def AllS (D : Nm) : List TT' → Prop
  | [] => True
  | t :: r => (∃ N ps, DS D t.d t.x t.st N ps) ∧ AllS D r
theorem AllS.get {D : Nm} : ∀ {l : List TT'} (f : Nat) (t : TT'), AllS D l → l[f]? = some t → ∃ N ps, DS D t.d t.x t.st N ps
  | [], _, _, _, e => by simp at e
  | y :: r, 0, t, h, e => by
    simp at e
    subst e
    exact h.1
  | y :: r, i + 1, t, h, e => AllS.get (l := r) i t h.2 (by simpa using e)
theorem law_end {l : PySem.W.OpenLaw} {w : World} {K : PySem.W.Frag} {mg : Str → Option Value} {fa : Addr} {h : Heap} {tab : List TT'} {cs : List (Str × Vl)} {n lf : Nat} {d : FD} {st : Stmt} (X : K.In h) (G0 : h.Ns mainGlobals mg) (hfa : mg "law" = some (.ref fa))
    (hDS : ∀ (f : Nat) (t : TT'), tab[f]? = some t → ∃ N ps, DS (mkD tab cs) t.d t.x t.st N ps) (hL : tab[lf]? = some ⟨d, "law", st⟩) (hS : ∃ N, DS (mkD tab cs) d "law" st N ["script"]) (hA : AllD K (tab.map fun t => (t.x, t.st))) (hC : AllV K cs) (hN : AllN K bNames)
    (hlaw : ∀ ns : List Int, ns.length ≤ 63 → ∃ h', run (mkG tab.length (cs.map (·.2))) (mkF (tab.map (·.d))) (n + 1) lf [.scr (ns.map .int)] [] = .ok (.bl true) h') :
    ∃ fd : FuncData, (∀ (s : Shared) (v : Value), BindsTo s fd ⟨[v], []⟩ [("script", v)]) ∧ ∀ base : Heap, K.In base → base.Ns mainGlobals mg → FnOk l.prog w K mg base (L2.CX l.prog w) (2 * n + 1) fa fd ["script"] (spLaw K) := by
  have at_ : ∀ f : Nat, ∃ a, ∀ t, tab[f]? = some t → DK K t.x t.st a := fun f => by
    cases hf : tab[f]? with
    | none => exact ⟨0, fun t e => by cases e⟩
    | some t =>
      obtain ⟨a, ha⟩ := AllD.get (i := f) (x := t.x) (s := t.st) hA (by rw [List.getElem?_map, hf]; rfl)
      exact ⟨a, fun t' e => by cases e; exact ha⟩
  let adr : Nat → Addr := fun f => if f < tab.length then Classical.choose (at_ f) else Classical.choose (at_ lf)
  have adr_ok : ∀ f t, tab[f]? = some t → DK K t.x t.st (adr f) := fun f t e => by
    have hl := (List.getElem?_eq_some_iff.mp e).1
    show DK K t.x t.st (if f < tab.length then Classical.choose (at_ f) else Classical.choose (at_ lf))
    rw [if_pos hl]
    exact Classical.choose_spec (at_ f) t e
  have adr_no : ∀ f, tab[f]? = none → DK K "law" st (adr f) := fun f e => by
    have hl := List.getElem?_eq_none_iff.mp e
    show DK K "law" st (if f < tab.length then Classical.choose (at_ f) else Classical.choose (at_ lf))
    rw [if_neg (by omega)]
    exact Classical.choose_spec (at_ lf) _ hL
  have dl := adr_ok lf _ hL
  have efa : fa = adr lf := by
    have := hfa.symm.trans (PySem.W.mg_of X G0 dl.ns)
    cases this
    rfl
  obtain ⟨fd, F⟩ := dl.fn
  obtain ⟨N, S⟩ := hS
  refine ⟨fd, fun s v => ?_, fun base KB GB => ?_⟩
  · obtain ⟨oc, od, kV, doc, pm, an, cdv, ct, osl, rfl, lk, hcd⟩ := F.ex
    exact .of_eq (S.bd kV doc pm an cdv ct [v] rfl)
  let Γ : Gm := { P := l.prog, w := w, K := K, mg := mg, base := base, fa := adr, ca := fun _ => 0, xa := fun _ => 0, xf := fun _ => "", cok := fun _ => false }
  have T : Tb Γ (mkG tab.length (cs.map (·.2))) (mkD tab cs) (mkF (tab.map (·.d))) := by
    refine ⟨fun x f e => ?_, fun x g e => ?_, fun x hx => ?_, fun c z => (by cases z), fun f d e => ?_, fun f e => ?_⟩
    · obtain ⟨_, e2⟩ := numb_get e
      rw [Nat.sub_zero, List.getElem?_map] at e2
      cases ht : tab[f]? with
      | none => rw [ht] at e2; cases e2
      | some t =>
        rw [ht] at e2
        cases Option.some.inj e2
        exact PySem.W.mg_of X G0 (adr_ok f t ht).ns
    · rcases lookup_app e with e | e
      · obtain ⟨_, e2⟩ := numb_get e
        rw [Nat.sub_zero, List.getElem?_map] at e2
        cases ht : cs[g]? with
        | none => rw [ht] at e2; cases e2
        | some t =>
          rw [ht] at e2
          cases Option.some.inj e2
          obtain ⟨u, w', h1, h2, h3⟩ := AllV.get (x := t.1) (v := t.2) hC ht
          refine ⟨t.2, u, w', ?_, PySem.W.mg_of X G0 h1, h2, fun L m H => h3 Γ L m H rfl⟩
          show gvF tab.length (cs.map (·.2)) g = _
          unfold gvF
          rw [List.getElem?_map, ht]
          rfl
      · obtain ⟨e1, e2⟩ := numb_get e
        rw [List.getElem?_map] at e2
        cases ht : tab[g - cs.length]? with
        | none => rw [ht] at e2; cases e2
        | some t =>
          rw [ht] at e2
          cases Option.some.inj e2
          have hl := (List.getElem?_eq_some_iff.mp ht).1
          refine ⟨.fn (g - cs.length), .ref (adr (g - cs.length)), .ref (adr (g - cs.length)), ?_, PySem.W.mg_of X G0 (adr_ok _ t ht).ns, rfl, fun L m H => rfl⟩
          show gvF tab.length (cs.map (·.2)) g = _
          unfold gvF
          rw [List.getElem?_eq_none (by rw [List.length_map]; exact e1), List.length_map, decide_eq_true (by omega)]
    · exact PySem.W.mg_none_of X G0 (hN.mem hx)
    · have e : (tab.map (·.d))[f]? = some d := e
      rw [List.getElem?_map] at e
      cases ht : tab[f]? with
      | none => rw [ht] at e; cases e
      | some t =>
        rw [ht] at e
        cases Option.some.inj e
        obtain ⟨N', ps, S'⟩ := hDS f t ht
        obtain ⟨fd', F'⟩ := (adr_ok f t ht).fn
        exact ⟨t.x, t.x, t.st, fd', N', ps, F', S'.sc, F'.binds S'.bd, S'.ar, S'.sl, S'.ck⟩
    · have e : (tab.map (·.d))[f]? = none := e
      rw [List.getElem?_map] at e
      cases ht : tab[f]? with
      | some t => rw [ht] at e; cases e
      | none =>
        obtain ⟨fd', F'⟩ := (adr_no f ht).fn
        exact ⟨F'.kp, fd', ["script"], F'.binds S.bd⟩
  rw [efa]
  have hf : mkF (tab.map (·.d)) lf = some d := by
    show (tab.map (·.d))[lf]? = _
    rw [List.getElem?_map, hL]
    rfl
  refine FnOk.imp (fnS (Γ := Γ) (lvI T n) hf F S.sc S.ar S.sl S.ck) fun vs H Q E z => ?_
  obtain ⟨a, ns, rfl, hl, ho, hs, q⟩ := z
  obtain ⟨h', e⟩ := hlaw ns hl
  refine ⟨[], [], [], [.scr (ns.map .int)], ⟨rfl, .nil, fun _ z => (by cases z), fun i a o e => (by simp at e), fun _ z => (by cases z)⟩, ⟨⟨a, ns.map V.int, rfl, ?_, ints_map⟩, trivial⟩, ?_⟩
  · rcases hs with (hs | ⟨o, hs⟩) | hs
    · rcases ho a with z | ⟨o, xs, z⟩
      · rw [hs] at z; cases z
      · rw [hs] at z; cases z
    · exact .inl ⟨o, hs⟩
    · obtain ⟨o, its, n, h1, h2, h3, h4, h5, h6⟩ := hs
      exact .inr ⟨o, its, n, h1, h2, h3, h4, h5, h6⟩
  · rw [e]
    intro m' H' u _ _ r
    cases (show u = .bl true from r)
    exact q H'
end Mi
set_option Elab.async false
set_option linter.all false
namespace Gf
theorem tb_head {w : Nat} (h : w ≠ 0) : w.testBit w.log2 = true := by
  have h1 := Nat.log2_self_le h
  have h2 : w < 2 ^ (w.log2 + 1) := Nat.lt_log2_self
  rw [Nat.testBit_eq_decide_div_mod_eq]
  have h3 : w / 2 ^ w.log2 = 1 := by
    apply Nat.div_eq_of_lt_le
    · rw [Nat.one_mul]; exact h1
    · rw [show (1 + 1) * 2 ^ w.log2 = 2 ^ (w.log2 + 1) by rw [Nat.pow_succ]; omega]; exact h2
  rw [h3]
  rfl
theorem tb_le {w i : Nat} (h : w.testBit i = true) : i ≤ w.log2 := by
  have h1 := Nat.ge_two_pow_of_testBit h
  have h0 : w ≠ 0 := by
    intro z
    subst z
    simp at h
  exact (Nat.le_log2 h0).mpr h1
theorem eq_zero_of {w : Nat} (h : ∀ i, w.testBit i = false) : w = 0 := by
  apply Nat.eq_of_testBit_eq
  intro i
  rw [h i, Nat.zero_testBit]
theorem xor_eq_zero {a b : Nat} (h : a ^^^ b = 0) : a = b := by
  apply Nat.eq_of_testBit_eq
  intro i
  have : (a ^^^ b).testBit i = false := by rw [h, Nat.zero_testBit]
  rw [Nat.testBit_xor] at this
  cases ha : a.testBit i <;> cases hb : b.testBit i <;> rw [ha, hb] at this <;> first | rfl | cases this
theorem xor_cancel (a b : Nat) : (a ^^^ b) ^^^ b = a := by rw [Nat.xor_assoc, Nat.xor_self, Nat.xor_zero]
def Sp : List Nat → Nat → Prop
  | [], v => v = 0
  | w :: r, v => Sp r v ∨ Sp r (v ^^^ w)
theorem sp_zero : ∀ ws, Sp ws 0
  | [] => rfl
  | _ :: r => .inl (sp_zero r)
theorem sp_xor : ∀ {ws : List Nat} {a b : Nat}, Sp ws a → Sp ws b → Sp ws (a ^^^ b)
  | [], a, b, h, g => by
    cases (show a = 0 from h)
    cases (show b = 0 from g)
    rfl
  | w :: r, a, b, h, g => by
    rcases h with h | h <;> rcases g with g | g
    · exact .inl (sp_xor h g)
    · right
      have := sp_xor h g
      rwa [← Nat.xor_assoc] at this
    · right
      have := sp_xor h g
      rwa [Nat.xor_assoc, Nat.xor_comm w b, ← Nat.xor_assoc] at this
    · left
      have := sp_xor h g
      rwa [Nat.xor_assoc, ← Nat.xor_assoc w b w, Nat.xor_comm w b, Nat.xor_assoc b w w, Nat.xor_self, Nat.xor_zero] at this
theorem sp_mem : ∀ {ws : List Nat} {w : Nat}, w ∈ ws → Sp ws w
  | v :: r, w, h => by
    rcases List.mem_cons.mp h with rfl | h
    · right
      rw [Nat.xor_self]
      exact sp_zero r
    · exact .inl (sp_mem h)
theorem sp_sub : ∀ {ws us : List Nat} {v : Nat}, (∀ w ∈ ws, Sp us w) → Sp ws v → Sp us v
  | [], us, v, _, h => by
    cases (show v = 0 from h)
    exact sp_zero us
  | w :: r, us, v, g, h => by
    rcases h with h | h
    · exact sp_sub (fun x hx => g x (List.mem_cons_of_mem _ hx)) h
    · have := sp_xor (sp_sub (fun x hx => g x (List.mem_cons_of_mem _ hx)) h) (g w List.mem_cons_self)
      rwa [xor_cancel] at this
def Same (ws us : List Nat) : Prop := ∀ v, Sp ws v ↔ Sp us v
theorem same_of {ws us : List Nat} (h : ∀ w ∈ ws, Sp us w) (g : ∀ u ∈ us, Sp ws u) : Same ws us := fun _ => ⟨sp_sub h, sp_sub g⟩
theorem Same.refl (ws : List Nat) : Same ws ws := fun _ => Iff.rfl
theorem Same.symm {ws us : List Nat} (h : Same ws us) : Same us ws := fun v => (h v).symm
theorem Same.trans {ws us vs : List Nat} (h : Same ws us) (g : Same us vs) : Same ws vs := fun v => (h v).trans (g v)
theorem Same.cons {ws us : List Nat} (h : Same ws us) (w : Nat) : Same (w :: ws) (w :: us) := fun v => or_congr (h v) (h _)
theorem sp_bit : ∀ {ws : List Nat} {p v : Nat}, (∀ w ∈ ws, w.testBit p = false) → Sp ws v → v.testBit p = false
  | [], p, v, _, h => by
    cases (show v = 0 from h)
    exact Nat.zero_testBit p
  | w :: r, p, v, g, h => by
    rcases h with h | h
    · exact sp_bit (fun x hx => g x (List.mem_cons_of_mem _ hx)) h
    · have := sp_bit (fun x hx => g x (List.mem_cons_of_mem _ hx)) h
      rw [Nat.testBit_xor, g w List.mem_cons_self] at this
      simpa using this
structure Red (bs : List Nat) : Prop where
  pos : ∀ b ∈ bs, b ≠ 0
  one : ∀ b ∈ bs, ∀ c ∈ bs, c.testBit b.log2 = true → c = b
  nd : bs.Nodup
theorem Red.tail {b : Nat} {bs : List Nat} (h : Red (b :: bs)) : Red bs :=
  ⟨fun c hc => h.pos c (List.mem_cons_of_mem _ hc), fun c hc d hd => h.one c (List.mem_cons_of_mem _ hc) d (List.mem_cons_of_mem _ hd), (List.nodup_cons.mp h.nd).2⟩
theorem Red.off {b : Nat} {bs : List Nat} (h : Red (b :: bs)) : ∀ c ∈ bs, c.testBit b.log2 = false := fun c hc => by
  cases e : c.testBit b.log2 with
  | false => rfl
  | true =>
    have := h.one b List.mem_cons_self c (List.mem_cons_of_mem _ hc) e
    rw [this] at hc
    exact absurd hc (List.nodup_cons.mp h.nd).1
theorem red_zero : ∀ {bs : List Nat} {v : Nat}, Red bs → Sp bs v → (∀ b ∈ bs, v.testBit b.log2 = false) → v = 0
  | [], _, _, h, _ => h
  | b :: r, v, R, h, g => by
    rcases h with h | h
    · exact red_zero R.tail h fun c hc => g c (List.mem_cons_of_mem _ hc)
    · have := sp_bit R.off h
      rw [Nat.testBit_xor, g b List.mem_cons_self, tb_head (R.pos b List.mem_cons_self)] at this
      cases this
theorem red_eq {bs : List Nat} {u v : Nat} (R : Red bs) (hu : Sp bs u) (hv : Sp bs v) (h : ∀ b ∈ bs, u.testBit b.log2 = v.testBit b.log2) : u = v := by
  apply xor_eq_zero
  refine red_zero R (sp_xor hu hv) fun b hb => ?_
  rw [Nat.testBit_xor, h b hb, Bool.xor_self]
theorem red_head : ∀ {bs : List Nat} {v : Nat}, Red bs → Sp bs v → v ≠ 0 → ∃ b ∈ bs, v.log2 = b.log2
  | [], _, _, h, n => absurd h n
  | b :: r, v, R, h, n => by
    rcases h with h | h
    · obtain ⟨c, hc, e⟩ := red_head R.tail h n
      exact ⟨c, List.mem_cons_of_mem _ hc, e⟩
    · by_cases z : v ^^^ b = 0
      · exact ⟨b, List.mem_cons_self, by rw [xor_eq_zero z]⟩
      · obtain ⟨c, hc, e⟩ := red_head R.tail h z
        have hb := tb_head (R.pos b List.mem_cons_self)
        have hvb := sp_bit R.off h
        have hv : v.testBit b.log2 = true := by
          rw [Nat.testBit_xor, hb] at hvb
          cases hh : v.testBit b.log2 with
          | true => rfl
          | false => rw [hh] at hvb; cases hvb
        -- the greater of b's head and c's head
        have hne : b.log2 ≠ c.log2 := fun z => by
          have := R.off c hc
          rw [z, tb_head (R.tail.pos c hc)] at this
          cases this
        have hcb : b.testBit c.log2 = false := by
          cases q : b.testBit c.log2 with
          | false => rfl
          | true =>
            have := R.one c (List.mem_cons_of_mem _ hc) b List.mem_cons_self q
            exact absurd (by rw [this]) hne
        by_cases hlt : b.log2 < c.log2
        · refine ⟨c, List.mem_cons_of_mem _ hc, ?_⟩
          have h1 : v.testBit c.log2 = true := by
            have := tb_head z
            rw [e, Nat.testBit_xor, hcb] at this
            simpa using this
          apply Nat.le_antisymm
          · apply Nat.not_lt.mp
            intro hl
            have t := tb_head n
            have t2 : (v ^^^ b).testBit v.log2 = true := by
              rw [Nat.testBit_xor, t]
              have : b.testBit v.log2 = false := by
                cases q : b.testBit v.log2 with
                | false => rfl
                | true => have := tb_le q; omega
              rw [this]
              rfl
            have := tb_le t2
            omega
          · exact tb_le h1
        · refine ⟨b, List.mem_cons_self, ?_⟩
          apply Nat.le_antisymm
          · apply Nat.not_lt.mp
            intro hl
            have t := tb_head n
            have t2 : (v ^^^ b).testBit v.log2 = true := by
              rw [Nat.testBit_xor, t]
              have : b.testBit v.log2 = false := by
                cases q : b.testBit v.log2 with
                | false => rfl
                | true => have := tb_le q; omega
              rw [this]
              rfl
            have := tb_le t2
            omega
          · exact tb_le hv
theorem red_mem {bs cs : List Nat} (R : Red bs) (S : Red cs) (e : Same bs cs) {b : Nat} (hb : b ∈ bs) : b ∈ cs := by
  have hs : Sp cs b := (e b).mp (sp_mem hb)
  obtain ⟨c, hc, el⟩ := red_head S hs (R.pos b hb)
  have : b = c := by
    refine red_eq S hs (sp_mem hc) fun d hd => ?_
    by_cases hdc : d = c
    · subst hdc
      rw [← el, tb_head (R.pos b hb), el, tb_head (S.pos d hd)]
    · have h1 : c.testBit d.log2 = false := by
        cases q : c.testBit d.log2 with
        | false => rfl
        | true => exact absurd (S.one d hd c hc q).symm hdc
      rw [h1]
      obtain ⟨b', hb', el'⟩ := red_head R ((e d).mpr (sp_mem hd)) (S.pos d hd)
      cases q : b.testBit d.log2 with
      | false => rfl
      | true =>
        rw [el'] at q
        have := R.one b' hb' b hb q
        subst this
        have : d.testBit c.log2 = true := by
          rw [← el, ← el']
          exact tb_head (S.pos d hd)
        exact absurd (S.one c hc d hd this) hdc
  rw [this]
  exact hc
theorem desc_eq : ∀ {bs cs : List Nat}, bs.Pairwise (· > ·) → cs.Pairwise (· > ·) → (∀ x, x ∈ bs ↔ x ∈ cs) → bs = cs
  | [], [], _, _, _ => rfl
  | [], c :: cs, _, _, h => absurd ((h c).mpr List.mem_cons_self) (by simp)
  | b :: bs, [], _, _, h => absurd ((h b).mp List.mem_cons_self) (by simp)
  | b :: bs, c :: cs, p, q, h => by
    have e : b = c := by
      rcases List.mem_cons.mp ((h b).mp List.mem_cons_self) with z | z
      · exact z
      · rcases List.mem_cons.mp ((h c).mpr List.mem_cons_self) with w | w
        · exact w.symm
        · have h1 := (List.pairwise_cons.mp q).1 b z
          have h2 := (List.pairwise_cons.mp p).1 c w
          omega
    subst e
    rw [desc_eq (List.pairwise_cons.mp p).2 (List.pairwise_cons.mp q).2 fun x => ?_]
    constructor
    · intro hx
      have := (List.pairwise_cons.mp p).1 x hx
      rcases List.mem_cons.mp ((h x).mp (List.mem_cons_of_mem _ hx)) with z | z
      · omega
      · exact z
    · intro hx
      have := (List.pairwise_cons.mp q).1 x hx
      rcases List.mem_cons.mp ((h x).mpr (List.mem_cons_of_mem _ hx)) with z | z
      · omega
      · exact z
theorem red_unique {bs cs : List Nat} (R : Red bs) (S : Red cs) (e : Same bs cs) (p : bs.Pairwise (· > ·)) (q : cs.Pairwise (· > ·)) : bs = cs :=
  desc_eq p q fun x => ⟨red_mem R S e, red_mem S R e.symm⟩
end Gf
set_option Elab.async false
set_option linter.all false
namespace Gf
theorem log2_of {x k : Nat} (h : x.testBit k = true) (g : ∀ i, k < i → x.testBit i = false) : x.log2 = k := by
  apply Nat.le_antisymm
  · apply Nat.not_lt.mp
    intro hl
    have n : x ≠ 0 := by
      intro z
      subst z
      simp at h
    have := tb_head n
    rw [g _ hl] at this
    cases this
  · exact tb_le h
theorem tb_above {x i : Nat} (h : x.log2 < i) : x.testBit i = false := by
  cases q : x.testBit i with
  | false => rfl
  | true => have := tb_le q; omega
def rem (bs : List Nat) (w : Nat) : Nat := bs.foldl (fun w b => if w.testBit b.log2 then w ^^^ b else w) w
theorem rem_cons (b : Nat) (bs : List Nat) (w : Nat) : rem (b :: bs) w = rem bs (if w.testBit b.log2 then w ^^^ b else w) := rfl
theorem rem_sp : ∀ (bs : List Nat) (w : Nat), Sp bs (rem bs w ^^^ w)
  | [], w => Nat.xor_self w
  | b :: r, w => by
    rw [rem_cons]
    have := rem_sp r (if w.testBit b.log2 then w ^^^ b else w)
    split at this
    · rename_i h
      rw [if_pos h]
      right
      rwa [Nat.xor_assoc]
    · rename_i h
      rw [if_neg h]
      exact .inl this
theorem rem_off {bs : List Nat} (R : Red bs) : ∀ {r : List Nat} (w : Nat), (∀ x ∈ r, x ∈ bs) → r.Nodup → ∀ b ∈ bs, (rem r w).testBit b.log2 = (if b ∈ r then false else w.testBit b.log2)
  | [], w, _, _, b, _ => by simp [rem]
  | c :: r, w, hs, nd, b, hb => by
    rw [rem_cons, rem_off R _ (fun x hx => hs x (List.mem_cons_of_mem _ hx)) (List.nodup_cons.mp nd).2 b hb]
    have hc := hs c List.mem_cons_self
    by_cases hbr : b ∈ r
    · rw [if_pos hbr, if_pos (List.mem_cons_of_mem _ hbr)]
    · rw [if_neg hbr]
      by_cases hbc : b = c
      · subst hbc
        rw [if_pos List.mem_cons_self]
        split
        · rename_i h
          rw [Nat.testBit_xor, h, tb_head (R.pos b hb)]
          rfl
        · rename_i h
          simpa using h
      · rw [if_neg (fun z => (List.mem_cons.mp z).elim hbc hbr)]
        have h1 : c.testBit b.log2 = false := by
          cases q : c.testBit b.log2 with
          | false => rfl
          | true => exact absurd (R.one b hb c hc q).symm hbc
        split
        · rw [Nat.testBit_xor, h1, Bool.xor_false]
        · rfl
theorem rem_head {bs : List Nat} (R : Red bs) (w : Nat) : ∀ b ∈ bs, (rem bs w).testBit b.log2 = false := fun b hb => by
  rw [rem_off R w (fun _ h => h) R.nd b hb, if_pos hb]
theorem rem_unique {bs : List Nat} (R : Red bs) {u v : Nat} (h : Sp bs (u ^^^ v)) : rem bs u = rem bs v := by
  apply xor_eq_zero
  refine red_zero R ?_ fun b hb => by rw [Nat.testBit_xor, rem_head R u b hb, rem_head R v b hb]; rfl
  have h1 := sp_xor (rem_sp bs u) (rem_sp bs v)
  have h2 := sp_xor h1 h
  have e : rem bs u ^^^ u ^^^ (rem bs v ^^^ v) ^^^ (u ^^^ v) = rem bs u ^^^ rem bs v := by
    apply Nat.eq_of_testBit_eq
    intro i
    simp only [Nat.testBit_xor]
    cases (rem bs u).testBit i <;> cases (rem bs v).testBit i <;> cases u.testBit i <;> cases v.testBit i <;> rfl
  rwa [e] at h2
theorem rem_zero {bs : List Nat} (R : Red bs) (w : Nat) : rem bs w = 0 ↔ Sp bs w := by
  constructor
  · intro h
    have := rem_sp bs w
    rwa [h, Nat.zero_xor] at this
  · intro h
    refine red_zero R ?_ (rem_head R w)
    have := sp_xor (rem_sp bs w) h
    rwa [xor_cancel] at this
def clr (r b : Nat) : Nat := if b.testBit r.log2 then b ^^^ r else b
def more (bs : List Nat) (r : Nat) : List Nat := bs.map (clr r) ++ [r]
section
variable {bs : List Nat} {r : Nat}
theorem clr_head (R : Red bs) (n : r ≠ 0) (h : ∀ b ∈ bs, r.testBit b.log2 = false) {b : Nat} (hb : b ∈ bs) : (clr r b).log2 = b.log2 := by
  unfold clr
  split
  · rename_i q
    have hlt : r.log2 < b.log2 := by
      have h1 := tb_le q
      have h2 : r.log2 ≠ b.log2 := fun z => by
        have := h b hb
        rw [← z, tb_head n] at this
        cases this
      omega
    refine log2_of ?_ fun i hi => ?_
    · rw [Nat.testBit_xor, tb_head (R.pos b hb), h b hb]
      rfl
    · rw [Nat.testBit_xor, tb_above hi, tb_above (by omega)]
      rfl
  · rfl
theorem clr_bit (h : ∀ b ∈ bs, r.testBit b.log2 = false) {b c : Nat} (hb : b ∈ bs) : (clr r c).testBit b.log2 = c.testBit b.log2 := by
  unfold clr
  split
  · rw [Nat.testBit_xor, h b hb, Bool.xor_false]
  · rfl
theorem clr_off (n : r ≠ 0) (c : Nat) : (clr r c).testBit r.log2 = false := by
  unfold clr
  split
  · rename_i q
    rw [Nat.testBit_xor, q, tb_head n]
    rfl
  · rename_i q
    simpa using q
theorem more_red (R : Red bs) (n : r ≠ 0) (h : ∀ b ∈ bs, r.testBit b.log2 = false) : Red (more bs r) := by
  have hd : ∀ x ∈ more bs r, (∃ b ∈ bs, x = clr r b ∧ x.log2 = b.log2) ∨ x = r := fun x hx => by
    rcases List.mem_append.mp hx with z | z
    · obtain ⟨b, hb, rfl⟩ := List.mem_map.mp z
      exact .inl ⟨b, hb, rfl, clr_head R n h hb⟩
    · exact .inr (List.mem_singleton.mp z)
  refine ⟨fun x hx => ?_, fun x hx y hy e => ?_, ?_⟩
  · rcases hd x hx with ⟨b, hb, rfl, el⟩ | rfl
    · intro z
      have := clr_bit h hb (c := b)
      rw [z, Nat.zero_testBit, tb_head (R.pos b hb)] at this
      cases this
    · exact n
  · rcases hd x hx with ⟨b, hb, rfl, el⟩ | rfl
    · rw [el] at e
      rcases hd y hy with ⟨c, hc, rfl, _⟩ | rfl
      · rw [clr_bit h hb] at e
        rw [R.one b hb c hc e]
      · rw [h b hb] at e
        cases e
    · rcases hd y hy with ⟨c, hc, rfl, _⟩ | rfl
      · rw [clr_off n] at e
        cases e
      · rfl
  · unfold more
    rw [List.nodup_append]
    refine ⟨?_, by simp, fun a ha b hb z => ?_⟩
    · rw [List.Nodup, List.pairwise_map]
      refine List.Pairwise.imp_of_mem ?_ R.nd
      intro a b ha hb hab z
      have : a.log2 = b.log2 := by rw [← clr_head R n h ha, ← clr_head R n h hb, z]
      have q := tb_head (R.pos b hb)
      rw [← this] at q
      exact hab (R.one a ha b hb q).symm
    · obtain ⟨c, hc, rfl⟩ := List.mem_map.mp ha
      rw [List.mem_singleton.mp hb] at z
      have q := clr_off n c
      rw [z, tb_head n] at q
      cases q
theorem more_same (w : Nat) (h : Sp bs (r ^^^ w)) : Same (more bs r) (w :: bs) := by
  have hw : Sp (w :: bs) w := sp_mem List.mem_cons_self
  have hr : Sp (w :: bs) r := by
    have := sp_xor (show Sp (w :: bs) (r ^^^ w) from .inl h) hw
    rwa [xor_cancel] at this
  have hb : ∀ b ∈ bs, Sp (w :: bs) b := fun b hb => sp_mem (List.mem_cons_of_mem _ hb)
  have mr : Sp (more bs r) r := sp_mem (List.mem_append_right _ (List.mem_singleton.mpr rfl))
  have mb : ∀ b ∈ bs, Sp (more bs r) b := fun b hb => by
    have hc : Sp (more bs r) (clr r b) := sp_mem (List.mem_append_left _ (List.mem_map.mpr ⟨b, hb, rfl⟩))
    unfold clr at hc
    split at hc
    · have := sp_xor hc mr
      rwa [xor_cancel] at this
    · exact hc
  refine same_of (fun x hx => ?_) fun x hx => ?_
  · rcases List.mem_append.mp hx with z | z
    · obtain ⟨b, hb', rfl⟩ := List.mem_map.mp z
      unfold clr
      split
      · exact sp_xor (hb b hb') hr
      · exact hb b hb'
    · rw [List.mem_singleton.mp z]
      exact hr
  · rcases List.mem_cons.mp hx with rfl | hx
    · have := sp_xor (sp_sub mb h) mr
      rwa [Nat.xor_comm r x, xor_cancel] at this
    · exact mb x hx
end
def insN (x : Nat) : List Nat → List Nat
  | [] => [x]
  | y :: r => if x ≤ y then x :: y :: r else y :: insN x r
def sortN : List Nat → List Nat
  | [] => []
  | x :: r => insN x (sortN r)
theorem insN_perm (x : Nat) : ∀ l : List Nat, (insN x l).Perm (x :: l)
  | [] => .refl _
  | y :: r => by
    unfold insN
    split
    · exact .refl _
    · exact ((insN_perm x r).cons y).trans (.swap x y r)
theorem insN_sorted (x : Nat) : ∀ {l : List Nat}, l.Pairwise (· ≤ ·) → (insN x l).Pairwise (· ≤ ·)
  | [], _ => by simp [insN]
  | y :: r, h => by
    unfold insN
    split
    · rename_i hx
      exact .cons (fun z hz => (List.mem_cons.mp hz).elim (fun q => by rw [q]; exact hx) fun q => Nat.le_trans hx ((List.pairwise_cons.mp h).1 z q)) h
    · rename_i hx
      refine .cons (fun z hz => ?_) (insN_sorted x (List.pairwise_cons.mp h).2)
      rcases List.mem_cons.mp ((insN_perm x r).mem_iff.mp hz) with q | q
      · rw [q]; omega
      · exact (List.pairwise_cons.mp h).1 z q
theorem sortN_perm : ∀ l : List Nat, (sortN l).Perm l
  | [] => .refl _
  | x :: r => (insN_perm x (sortN r)).trans ((sortN_perm r).cons x)
theorem sortN_sorted : ∀ l : List Nat, (sortN l).Pairwise (· ≤ ·)
  | [] => .nil
  | x :: r => insN_sorted x (sortN_sorted r)
def desc (l : List Nat) : List Nat := (sortN l).reverse
theorem desc_perm (l : List Nat) : (desc l).Perm l := (List.reverse_perm _).trans (sortN_perm l)
theorem desc_sorted {l : List Nat} (nd : l.Nodup) : (desc l).Pairwise (· > ·) := by
  unfold desc
  rw [List.pairwise_reverse]
  have h := sortN_sorted l
  have n : (sortN l).Nodup := (sortN_perm l).nodup_iff.mpr nd
  refine List.Pairwise.imp ?_ (h.and n)
  intro a b ⟨h1, h2⟩
  show a < b
  omega
theorem Red.perm {bs cs : List Nat} (R : Red bs) (p : cs.Perm bs) : Red cs :=
  ⟨fun b hb => R.pos b (p.mem_iff.mp hb), fun b hb c hc => R.one b (p.mem_iff.mp hb) c (p.mem_iff.mp hc), p.nodup_iff.mpr R.nd⟩
theorem same_perm {bs cs : List Nat} (p : cs.Perm bs) : Same cs bs := same_of (fun w hw => sp_mem (p.mem_iff.mp hw)) fun w hw => sp_mem (p.mem_iff.mpr hw)
def withW (bs : List Nat) (w : Nat) : List Nat := if rem bs w = 0 then bs else desc (more bs (rem bs w))
structure Bas (bs : List Nat) : Prop where
  red : Red bs
  ord : bs.Pairwise (· > ·)
theorem bas_nil : Bas [] := ⟨⟨fun _ h => (nomatch h), fun _ h => (nomatch h), List.nodup_nil⟩, List.Pairwise.nil⟩
theorem withW_bas {bs : List Nat} (B : Bas bs) (w : Nat) : Bas (withW bs w) ∧ Same (withW bs w) (w :: bs) := by
  unfold withW
  split
  · rename_i h
    refine ⟨B, same_of (fun x hx => sp_mem (List.mem_cons_of_mem _ hx)) fun x hx => ?_⟩
    rcases List.mem_cons.mp hx with rfl | hx
    · exact (rem_zero B.red x).mp h
    · exact sp_mem hx
  · rename_i h
    have M := more_red B.red h (rem_head B.red w)
    exact ⟨⟨M.perm (desc_perm _), desc_sorted M.nd⟩, (same_perm (desc_perm _)).trans (more_same w (rem_sp bs w))⟩
def basisF (bs ws : List Nat) : List Nat := ws.foldl withW bs
theorem basisF_ok : ∀ (ws : List Nat) {bs : List Nat}, Bas bs → Bas (basisF bs ws) ∧ Same (basisF bs ws) (ws ++ bs)
  | [], bs, B => ⟨B, Same.refl bs⟩
  | w :: ws, bs, B => by
    obtain ⟨B1, S1⟩ := withW_bas B w
    obtain ⟨B2, S2⟩ := basisF_ok ws B1
    refine ⟨B2, S2.trans (same_of (fun x hx => ?_) fun x hx => ?_)⟩
    · rcases List.mem_append.mp hx with z | z
      · exact sp_mem (List.mem_append_left _ (List.mem_cons_of_mem _ z))
      · refine sp_sub (fun y hy => ?_) ((S1 x).mp (sp_mem z))
        rcases List.mem_cons.mp hy with rfl | hy
        · exact sp_mem (List.mem_append_left _ List.mem_cons_self)
        · exact sp_mem (List.mem_append_right _ hy)
    · have inn : ∀ y, Sp (w :: bs) y → Sp (ws ++ withW bs w) y := fun y hy => sp_sub (fun z hz => sp_mem (List.mem_append_right _ hz)) ((S1 y).mpr hy)
      rcases List.mem_append.mp hx with z | z
      · rcases List.mem_cons.mp z with rfl | z
        · exact inn _ (sp_mem List.mem_cons_self)
        · exact sp_mem (List.mem_append_left _ z)
      · exact inn _ (sp_mem (List.mem_cons_of_mem _ z))
def basis (ws : List Nat) : List Nat := basisF [] ws
theorem basis_bas (ws : List Nat) : Bas (basis ws) := (basisF_ok ws bas_nil).1
theorem basis_same (ws : List Nat) : Same (basis ws) ws := by
  have := (basisF_ok ws bas_nil).2
  rwa [List.append_nil] at this
theorem basis_eq {bs ws : List Nat} (B : Bas bs) (S : Same bs ws) : bs = basis ws := red_unique B.red (basis_bas ws).red (S.trans (basis_same ws).symm) B.ord (basis_bas ws).ord
theorem basis_congr {ws us : List Nat} (S : Same ws us) : basis ws = basis us := basis_eq (basis_bas ws) ((basis_same ws).trans S)
theorem sp_lt {ws : List Nat} {v k : Nat} (h : ∀ w ∈ ws, w < 2 ^ k) (g : Sp ws v) : v < 2 ^ k := by
  apply Nat.lt_pow_two_of_testBit
  intro i hi
  refine sp_bit (fun w hw => ?_) g
  exact Nat.testBit_lt_two_pow (Nat.lt_of_lt_of_le (h w hw) (Nat.pow_le_pow_right (by decide) hi))
theorem desc_len : ∀ {bs : List Nat} {m : Nat}, bs.Pairwise (· > ·) → (∀ b ∈ bs, 0 < b ∧ b < m) → bs.length + 1 ≤ m ∨ bs = []
  | [], _, _, _ => .inr rfl
  | b :: bs, m, p, h => by
    left
    obtain ⟨h1, h2⟩ := h b List.mem_cons_self
    rcases desc_len (m := b) (List.pairwise_cons.mp p).2 (fun c hc => ⟨(h c (List.mem_cons_of_mem _ hc)).1, (List.pairwise_cons.mp p).1 c hc⟩) with z | z
    · rw [List.length_cons]; omega
    · subst z
      simp
      omega
structure BasN (k : Nat) (bs : List Nat) : Prop where
  bas : Bas bs
  lt : ∀ b ∈ bs, b < 2 ^ k
theorem BasN.len {k : Nat} {bs : List Nat} (B : BasN k bs) : bs.length + 1 ≤ 2 ^ k := by
  rcases desc_len (m := 2 ^ k) B.bas.ord (fun b hb => ⟨Nat.pos_of_ne_zero (B.bas.red.pos b hb), B.lt b hb⟩) with z | z
  · exact z
  · subst z
    exact Nat.one_le_two_pow
theorem BasN.more {k : Nat} {bs : List Nat} (B : BasN k bs) {w : Nat} (hw : w < 2 ^ k) : BasN k (withW bs w) := by
  obtain ⟨B1, S1⟩ := withW_bas B.bas w
  refine ⟨B1, fun b hb => sp_lt (ws := w :: bs) (fun x hx => ?_) ((S1 b).mp (sp_mem hb))⟩
  rcases List.mem_cons.mp hx with rfl | hx
  · exact hw
  · exact B.lt x hx
theorem basN_nil (k : Nat) : BasN k [] := ⟨bas_nil, fun _ h => (nomatch h)⟩
theorem basN (k : Nat) {ws : List Nat} (h : ∀ w ∈ ws, w < 2 ^ k) : BasN k (basis ws) := ⟨basis_bas ws, fun b hb => sp_lt h ((basis_same ws b).mp (sp_mem hb))⟩
end Gf
set_option Elab.async false
set_option linter.all false
namespace Gf
theorem and_nib {x a : Nat} (hx : x < 16) (ha : a < 16) (y b : Nat) : (x + 16 * y) &&& (a + 16 * b) = (x &&& a) + 16 * (y &&& b) := by
  have hxa : x &&& a < 16 := Nat.and_lt_two_pow (n := 4) x (by omega)
  have e : ∀ (u v : Nat), u < 16 → ∀ i, (u + 16 * v).testBit i = if i < 4 then u.testBit i else v.testBit (i - 4) := fun u v hu i => by
    rw [show u + 16 * v = 2 ^ 4 * v + u by omega]
    rw [Nat.testBit_two_pow_mul_add v (show u < 2 ^ 4 by omega)]
  apply Nat.eq_of_testBit_eq
  intro i
  rw [Nat.testBit_and, e x y hx, e a b ha, e _ _ hxa]
  split
  · rw [Nat.testBit_and]
  · rw [Nat.testBit_and]
def nib1 (n : Nat) : Nat := n - ((n / 2) &&& 5)
def nib2 (n : Nat) : Nat := (n &&& 3) + ((n / 4) &&& 3)
def stp1 (M w : Nat) : Nat := w - ((w / 2) &&& M)
def stp2 (M w : Nat) : Nat := (w &&& M) + ((w / 4) &&& M)
theorem stp1_nib {x : Nat} (hx : x < 16) (y M : Nat) : stp1 (5 + 16 * M) (x + 16 * y) = nib1 x + 16 * stp1 M y := by
  unfold stp1 nib1
  have e : (x + 16 * y) / 2 = (x / 2 + 8 * (y % 2)) + 16 * (y / 2) := by omega
  have hlo : x / 2 + 8 * (y % 2) < 16 := by omega
  rw [e, and_nib hlo (by omega)]
  have h5 : (x / 2 + 8 * (y % 2)) &&& 5 = (x / 2) &&& 5 := by
    have hx2 : x / 2 < 8 := by omega
    have hy : y % 2 = 0 ∨ y % 2 = 1 := by omega
    generalize x / 2 = u at hx2
    have : ∀ u, u < 8 → ((u + 8 * 0) &&& 5 = u &&& 5) ∧ ((u + 8 * 1) &&& 5 = u &&& 5) := by decide
    rcases hy with z | z <;> rw [z]
    · exact (this u hx2).1
    · exact (this u hx2).2
  rw [h5]
  have h1 : (x / 2) &&& 5 ≤ x := Nat.le_trans Nat.and_le_left (Nat.div_le_self _ _)
  have h2 : (y / 2) &&& M ≤ y := Nat.le_trans Nat.and_le_left (Nat.div_le_self _ _)
  omega
theorem stp2_nib {x : Nat} (hx : x < 16) (y M : Nat) : stp2 (3 + 16 * M) (x + 16 * y) = nib2 x + 16 * stp2 M y := by
  unfold stp2 nib2
  have e : (x + 16 * y) / 4 = (x / 4 + 4 * (y % 4)) + 16 * (y / 4) := by omega
  have hlo : x / 4 + 4 * (y % 4) < 16 := by omega
  rw [e, and_nib hlo (by omega), and_nib hx (by omega)]
  have h5 : (x / 4 + 4 * (y % 4)) &&& 3 = (x / 4) &&& 3 := by
    have hx2 : x / 4 < 4 := by omega
    have hy : y % 4 < 4 := by omega
    generalize x / 4 = u at hx2
    generalize y % 4 = v at hy
    have : ∀ u, u < 4 → ∀ v, v < 4 → ((u + 4 * v) &&& 3 = u &&& 3) := by decide
    exact this u hx2 v hy
  rw [h5]
  omega
def ones : Nat → Nat → Nat
  | 0, _ => 0
  | k + 1, w => w % 2 + ones k (w / 2)
theorem ones_nib {x : Nat} (hx : x < 16) (k y : Nat) : ones (k + 4) (x + 16 * y) = ones 4 x + ones k y := by
  show (x + 16 * y) % 2 + ((x + 16 * y) / 2 % 2 + ((x + 16 * y) / 2 / 2 % 2 + ((x + 16 * y) / 2 / 2 / 2 % 2 + ones k ((x + 16 * y) / 2 / 2 / 2 / 2)))) = (x % 2 + (x / 2 % 2 + (x / 2 / 2 % 2 + (x / 2 / 2 / 2 % 2 + 0)))) + ones k y
  rw [show (x + 16 * y) / 2 / 2 / 2 / 2 = y by omega]
  omega
theorem nib_ones : ∀ n, n < 16 → nib1 n < 16 ∧ nib2 (nib1 n) = ones 4 n ∧ ones 4 n ≤ 4 := by decide
theorem fold_nib {c : Nat} (hc : c < 16) (y M : Nat) : (c + 16 * y) &&& (15 + 16 * M) = c + 16 * (y &&& M) := by
  rw [and_nib hc (by omega)]
  have : ∀ c, c < 16 → c &&& 15 = c := by decide
  rw [this c hc]
theorem skip_nib {c : Nat} (hc : c < 16) (y M : Nat) : (c + 16 * y) &&& (0 + 16 * M) = 16 * (y &&& M) := by
  rw [and_nib hc (by omega), Nat.and_zero, Nat.zero_add]
theorem trick (w : Nat) (hw : w < 2 ^ 24) : ((stp2 3355443 (stp1 5592405 w) + stp2 3355443 (stp1 5592405 w) / 16) &&& 986895) % 255 = ones 24 w := by
  obtain ⟨a, ha, w1, e1⟩ : ∃ a, a < 16 ∧ ∃ w1, w = a + 16 * w1 := ⟨w % 16, by omega, w / 16, by omega⟩
  obtain ⟨b, hb, w2, e2⟩ : ∃ a, a < 16 ∧ ∃ w2, w1 = a + 16 * w2 := ⟨w1 % 16, by omega, w1 / 16, by omega⟩
  obtain ⟨c, hc, w3, e3⟩ : ∃ a, a < 16 ∧ ∃ w3, w2 = a + 16 * w3 := ⟨w2 % 16, by omega, w2 / 16, by omega⟩
  obtain ⟨d, hd, w4, e4⟩ : ∃ a, a < 16 ∧ ∃ w4, w3 = a + 16 * w4 := ⟨w3 % 16, by omega, w3 / 16, by omega⟩
  obtain ⟨e, he, w5, e5⟩ : ∃ a, a < 16 ∧ ∃ w5, w4 = a + 16 * w5 := ⟨w4 % 16, by omega, w4 / 16, by omega⟩
  have hf : w5 < 16 := by
    have : (2 : Nat) ^ 24 = 16777216 := by decide
    omega
  obtain ⟨pa, qa, la⟩ := nib_ones a ha
  obtain ⟨pb, qb, lb⟩ := nib_ones b hb
  obtain ⟨pc, qc, lc⟩ := nib_ones c hc
  obtain ⟨pd, qd, ld⟩ := nib_ones d hd
  obtain ⟨pe, qe, le⟩ := nib_ones e he
  obtain ⟨pf, qf, lf⟩ := nib_ones w5 hf
  have s1 : stp1 5592405 w = nib1 a + 16 * (nib1 b + 16 * (nib1 c + 16 * (nib1 d + 16 * (nib1 e + 16 * nib1 w5)))) := by
    subst e1 e2 e3 e4 e5
    rw [show 5592405 = 5 + 16 * 349525 by rfl, stp1_nib ha, show 349525 = 5 + 16 * 21845 by rfl, stp1_nib hb, show 21845 = 5 + 16 * 1365 by rfl, stp1_nib hc, show 1365 = 5 + 16 * 85 by rfl, stp1_nib hd, show 85 = 5 + 16 * 5 by rfl, stp1_nib he]
    rfl
  have s2 : stp2 3355443 (stp1 5592405 w) = ones 4 a + 16 * (ones 4 b + 16 * (ones 4 c + 16 * (ones 4 d + 16 * (ones 4 e + 16 * ones 4 w5)))) := by
    rw [s1, show 3355443 = 3 + 16 * 209715 by rfl, stp2_nib pa, show 209715 = 3 + 16 * 13107 by rfl, stp2_nib pb, show 13107 = 3 + 16 * 819 by rfl, stp2_nib pc, show 819 = 3 + 16 * 51 by rfl, stp2_nib pd, show 51 = 3 + 16 * 3 by rfl, stp2_nib pe]
    rw [qa, qb, qc, qd, qe, show stp2 3 (nib1 w5) = nib2 (nib1 w5) from rfl, qf]
  have o : ones 24 w = ones 4 a + (ones 4 b + (ones 4 c + (ones 4 d + (ones 4 e + ones 4 w5)))) := by
    subst e1 e2 e3 e4 e5
    rw [ones_nib (k := 20) ha, ones_nib (k := 16) hb, ones_nib (k := 12) hc, ones_nib (k := 8) hd, ones_nib (k := 4) he]
  rw [s2, o]
  generalize ones 4 a = A at *
  generalize ones 4 b = B at *
  generalize ones 4 c = C at *
  generalize ones 4 d = E at *
  generalize ones 4 e = F at *
  generalize ones 4 w5 = G at *
  have t : (A + 16 * (B + 16 * (C + 16 * (E + 16 * (F + 16 * G))))) + (A + 16 * (B + 16 * (C + 16 * (E + 16 * (F + 16 * G))))) / 16 = (A + B) + 16 * ((B + C) + 16 * ((C + E) + 16 * ((E + F) + 16 * ((F + G) + 16 * (G + 16 * 0))))) := by omega
  rw [t, show 986895 = 15 + 16 * (0 + 16 * (15 + 16 * (0 + 16 * (15 + 16 * (0 + 16 * 0))))) by rfl, fold_nib (by omega), skip_nib (by omega), fold_nib (by omega), skip_nib (by omega), fold_nib (by omega), skip_nib (by omega)]
  have z : (0 : Nat) &&& 0 = 0 := rfl
  rw [z]
  omega
end Gf
set_option Elab.async false
set_option linter.all false
namespace Gf
theorem half_xor (a b : Nat) : (a ^^^ b) / 2 = (a / 2) ^^^ (b / 2) := by
  apply Nat.eq_of_testBit_eq
  intro i
  simp only [Nat.testBit_div_two, Nat.testBit_xor]
theorem half_and (a b : Nat) : (a &&& b) / 2 = (a / 2) &&& (b / 2) := by
  apply Nat.eq_of_testBit_eq
  intro i
  simp only [Nat.testBit_div_two, Nat.testBit_and]
theorem low_bit (a : Nat) : a % 2 = if a.testBit 0 then 1 else 0 := by
  rw [Nat.testBit_zero]
  rcases Nat.mod_two_eq_zero_or_one a with h | h <;> simp [h]
theorem ones_sum : ∀ (k a b : Nat), ones k (a ^^^ b) + 2 * ones k (a &&& b) = ones k a + ones k b
  | 0, _, _ => rfl
  | k + 1, a, b => by
    have ih := ones_sum k (a / 2) (b / 2)
    show (a ^^^ b) % 2 + ones k ((a ^^^ b) / 2) + 2 * ((a &&& b) % 2 + ones k ((a &&& b) / 2)) = a % 2 + ones k (a / 2) + (b % 2 + ones k (b / 2))
    rw [half_xor, half_and]
    have e : (a ^^^ b) % 2 + 2 * ((a &&& b) % 2) = a % 2 + b % 2 := by
      rw [low_bit (a ^^^ b), low_bit (a &&& b), low_bit a, low_bit b, Nat.testBit_xor, Nat.testBit_and]
      cases a.testBit 0 <;> cases b.testBit 0 <;> rfl
    omega
theorem places_sum (w : Nat) : ∀ k, (((List.range k).filter fun p => w.testBit p).map (2 ^ ·)).sum = w % 2 ^ k
  | 0 => by simp [Nat.mod_one]
  | k + 1 => by
    rw [List.range_succ, List.filter_append, List.map_append, List.sum_append, places_sum w k, Nat.mod_pow_succ]
    have e := Nat.testBit_eq_decide_div_mod_eq (x := w) (i := k)
    cases h : w.testBit k with
    | true =>
      rw [h] at e
      have : w / 2 ^ k % 2 = 1 := of_decide_eq_true e.symm
      rw [this]
      simp [h]
    | false =>
      rw [h] at e
      have h1 : ¬ w / 2 ^ k % 2 = 1 := of_decide_eq_false e.symm
      have : w / 2 ^ k % 2 = 0 := by omega
      rw [this]
      simp [h]
theorem lt_of_tb {x y : Nat} (p : Nat) (hx : x.testBit p = false) (hy : y.testBit p = true) (h : ∀ j, p < j → x.testBit j = y.testBit j) : x < y := by
  have e : x / 2 ^ (p + 1) = y / 2 ^ (p + 1) := Nat.eq_of_testBit_eq fun i => by
    rw [Nat.testBit_div_two_pow, Nat.testBit_div_two_pow]
    exact h _ (by omega)
  rw [Nat.pow_succ, ← Nat.div_div_eq_div_mul, ← Nat.div_div_eq_div_mul] at e
  rw [Nat.testBit_eq_decide_div_mod_eq] at hx hy
  have h1 : ¬ x / 2 ^ p % 2 = 1 := of_decide_eq_false hx
  have h2 : y / 2 ^ p % 2 = 1 := of_decide_eq_true hy
  apply Nat.lt_of_not_le
  intro hle
  have := Nat.div_le_div_right (c := 2 ^ p) hle
  omega
def spanL (bs acc : List Nat) : List Nat := bs.foldl (fun acc w => acc ++ acc.map (· ^^^ w)) acc
theorem spanL_cons (b : Nat) (bs acc : List Nat) : spanL (b :: bs) acc = spanL bs (acc ++ acc.map (· ^^^ b)) := rfl
theorem spanL_perm : ∀ {bs cs : List Nat}, bs.Perm cs → ∀ {as as' : List Nat}, as.Perm as' → (spanL bs as).Perm (spanL cs as') := by
  intro bs cs p
  induction p with
  | nil => intro as as' q; exact q
  | cons x _ ih => intro as as' q; exact ih (q.append (q.map _))
  | swap x y l =>
    intro as as' q
    have base : ∀ {u v : List Nat}, u.Perm v → (spanL l u).Perm (spanL l v) := by
      induction l with
      | nil => intro u v h; exact h
      | cons z l ih => intro u v h; exact ih (h.append (h.map _))
    rw [spanL_cons, spanL_cons, spanL_cons, spanL_cons]
    refine base ?_
    rw [List.map_append, List.map_append, List.map_map, List.map_map]
    have e1 : (as.map ((· ^^^ x) ∘ (· ^^^ y))).Perm (as'.map ((· ^^^ y) ∘ (· ^^^ x))) := by
      have : ((· ^^^ x) ∘ (· ^^^ y) : Nat → Nat) = (· ^^^ y) ∘ (· ^^^ x) := by
        funext a
        show (a ^^^ y) ^^^ x = (a ^^^ x) ^^^ y
        rw [Nat.xor_assoc, Nat.xor_comm y x, ← Nat.xor_assoc]
      rw [this]
      exact q.map _
    have e2 : (as ++ as.map (· ^^^ y) ++ (as.map (· ^^^ x) ++ as.map ((· ^^^ x) ∘ (· ^^^ y)))).Perm (as ++ as.map (· ^^^ x) ++ (as.map (· ^^^ y) ++ as.map ((· ^^^ x) ∘ (· ^^^ y)))) := by
      rw [List.append_assoc, List.append_assoc]
      refine List.Perm.append_left _ ?_
      rw [← List.append_assoc, ← List.append_assoc]
      exact List.Perm.append_right _ List.perm_append_comm
    exact e2.trans (((q.append (q.map _)).append ((q.map _).append e1)))
  | trans _ _ ih1 ih2 => intro as as' q; exact (ih1 q).trans (ih2 (.refl _))
theorem top_lt {a b : Nat} (h : a < b) : ∃ p, p = (a ^^^ b).log2 ∧ a ^^^ b ≠ 0 ∧ a.testBit p = false ∧ b.testBit p = true ∧ ∀ i, p < i → a.testBit i = b.testBit i := by
  have n : a ^^^ b ≠ 0 := fun z => by
    have := xor_eq_zero z
    omega
  have above : ∀ i, (a ^^^ b).log2 < i → a.testBit i = b.testBit i := fun i hi => by
    have := tb_above hi
    rw [Nat.testBit_xor] at this
    cases ha : a.testBit i <;> cases hb : b.testBit i <;> rw [ha, hb] at this <;> first | rfl | cases this
  have t := tb_head n
  rw [Nat.testBit_xor] at t
  refine ⟨_, rfl, n, ?_, ?_, above⟩
  · cases ha : a.testBit (a ^^^ b).log2 with
    | false => rfl
    | true =>
      rw [ha] at t
      have hb : b.testBit (a ^^^ b).log2 = false := by simpa using t
      have := lt_of_tb _ hb ha fun j hj => (above j hj).symm
      omega
  · cases hb : b.testBit (a ^^^ b).log2 with
    | true => rfl
    | false =>
      rw [hb] at t
      have ha : a.testBit (a ^^^ b).log2 = true := by simpa using t
      have := lt_of_tb _ hb ha fun j hj => (above j hj).symm
      omega
theorem spanL_asc : ∀ (bs : List Nat) {ds acc : List Nat}, Red (bs ++ ds) → (ds.reverse ++ bs).Pairwise (fun a b => a.log2 < b.log2) → (∀ a ∈ acc, Sp ds a) → acc.Pairwise (· < ·) → (spanL bs acc).Pairwise (· < ·)
  | [], _, _, _, _, _, p => p
  | b :: bs, ds, acc, R, ho, hs, p => by
    rw [spanL_cons]
    have Rd : Red ds := ⟨fun x hx => R.pos x (List.mem_append_right _ hx), fun x hx y hy => R.one x (List.mem_append_right _ hx) y (List.mem_append_right _ hy), (List.nodup_append.mp R.nd).2.1⟩
    have hb : ∀ d ∈ ds, b.testBit d.log2 = false := fun d hd => by
      cases q : b.testBit d.log2 with
      | false => rfl
      | true =>
        have e := R.one d (List.mem_append_right _ hd) b List.mem_cons_self q
        rw [← e] at hd
        exact absurd rfl ((List.nodup_append.mp R.nd).2.2 b List.mem_cons_self b hd)
    have hlow : ∀ d ∈ ds, d.log2 < b.log2 := fun d hd => (List.pairwise_append.mp ho).2.2 d (List.mem_reverse.mpr hd) b List.mem_cons_self
    have off : ∀ a ∈ acc, a.testBit b.log2 = false ∧ ∀ i, b.log2 < i → a.testBit i = false := fun a ha =>
      ⟨sp_bit (fun d hd => tb_above (hlow d hd)) (hs a ha), fun i hi => sp_bit (fun d hd => tb_above (Nat.lt_trans (hlow d hd) hi)) (hs a ha)⟩
    have hbb : b.testBit b.log2 = true := tb_head (R.pos b List.mem_cons_self)
    refine spanL_asc bs (ds := b :: ds) (Red.perm R ?_) ?_ ?_ ?_
    · exact List.perm_middle
    · rw [List.reverse_cons, List.append_assoc]
      exact ho
    · intro a ha
      rcases List.mem_append.mp ha with z | z
      · exact .inl (hs a z)
      · obtain ⟨c, hc, rfl⟩ := List.mem_map.mp z
        right
        rw [xor_cancel]
        exact hs c hc
    · rw [List.pairwise_append]
      refine ⟨p, ?_, fun a ha c hc => ?_⟩
      · rw [List.pairwise_map]
        refine List.Pairwise.imp_of_mem ?_ p
        intro x y hx hy hxy
        obtain ⟨q, eq, n, h1, h2, h3⟩ := top_lt hxy
        obtain ⟨d, hd, el⟩ := red_head Rd (sp_xor (hs x hx) (hs y hy)) n
        have hq : b.testBit q = false := by rw [eq, el]; exact hb d hd
        refine lt_of_tb q ?_ ?_ fun j hj => ?_
        · rw [Nat.testBit_xor, h1, hq]; rfl
        · rw [Nat.testBit_xor, h2, hq]; rfl
        · rw [Nat.testBit_xor, Nat.testBit_xor, h3 j hj]
      · obtain ⟨e, he, rfl⟩ := List.mem_map.mp hc
        refine lt_of_tb b.log2 (off a ha).1 ?_ fun j hj => ?_
        · rw [Nat.testBit_xor, (off e he).1, hbb]; rfl
        · rw [Nat.testBit_xor, (off a ha).2 j hj, (off e he).2 j hj, tb_above hj]; rfl
end Gf
set_option Elab.async false
set_option linter.all false
set_option maxRecDepth 100000
set_option maxHeartbeats 4000000
namespace Law
open PySem PySem.Spec PyProof.Rows L2 Mi
def topS (i : Nat) : Stmt := PySem.Challenge.pw_ownchecks_k01_whole_words_and_their_one.main.body.getD i (.Pass ⟨0, 0, 0, 0⟩)
def f0 : FD := { ar := 1, sl := 1, frz := true, body := (.ret (.and (.bif .isint (.acons (.var 0) .anil)) (.not (.bif .isbool (.acons (.var 0) .anil))))) }
def f1 : FD := { ar := 3, sl := 3, frz := true, body := (.ret (.and (.call 0 (.acons (.var 0) .anil)) (.chain .le .le (.var 1) (.var 0) (.var 2)))) }
def f2 : FD := { ar := 2, sl := 2, frz := true, body := (.ret (.and (.call 0 (.acons (.var 1) .anil)) (.chain .le .lt (.int 0) (.var 1) (.bin .shl (.int 1) (.var 0))))) }
def f3 : FD := { ar := 2, sl := 3, frz := true, body := (.ret (.and (.bif .istuple (.acons (.var 1) .anil)) (.and (.cmp .le (.bif .len (.acons (.var 1) .anil)) (.gl 1)) (.bif .all (.acons (.fz (.comp [2] (.n 2) (.over (.var 1)) .noe (.call 2 (.acons (.var 0) (.acons (.var 2) .anil))))) .anil))))) }
def f4 : FD := { ar := 2, sl := 4, frz := true, body := (.seq (.ifs (.or (.not (.bif .istuple (.acons (.var 0) .anil))) (.not (.bif .all (.acons (.fz (.comp [2] (.n 2) (.over (.var 0)) .noe (.call 1 (.acons (.var 2) (.acons (.int 0) (.acons (.var 1) .anil)))))) .anil)))) (.ret (.bl false)) .skip) (.ret (.bif .all (.acons (.fz (.comp [2, 3] (.t [2, 3]) (.zip (.var 0) (.slc (.var 0) (.sm (.int 1)) .noe)) .noe (.cmp .lt (.var 2) (.var 3)))) .anil)))) }
def f5 : FD := { ar := 1, sl := 3, frz := true, body := (.seq (.set 1 (.bin .sub (.var 0) (.bin .and (.bin .shr (.var 0) (.int 1)) (.int 5592405)))) (.seq (.set 2 (.bin .add (.bin .and (.var 1) (.int 3355443)) (.bin .and (.bin .shr (.var 1) (.int 2)) (.int 3355443)))) (.ret (.bin .mod (.bin .and (.bin .add (.var 2) (.bin .shr (.var 2) (.int 4))) (.int 986895)) (.int 255))))) }
def f6 : FD := { ar := 2, sl := 2, frz := true, body := (.ret (.bin .mod (.call 5 (.acons (.bin .and (.var 0) (.var 1)) .anil)) (.gl 3))) }
def f7 : FD := { ar := 1, sl := 1, frz := true, body := (.ret (.bin .sub (.mth .bitlen (.var 0) .anil) (.int 1))) }
def f8 : FD := { ar := 2, sl := 2, frz := true, body := (.ret (.cmp .eq (.bin .and (.bin .shr (.var 0) (.var 1)) (.int 1)) (.int 1))) }
def f9 : FD := { ar := 1, sl := 2, frz := true, body := (.ret (.fz (.comp [1] (.n 1) (.range (.acons (.mth .bitlen (.var 0) .anil) .anil)) (.sm (.call 8 (.acons (.var 0) (.acons (.var 1) .anil)))) (.var 1)))) }
def f10 : FD := { ar := 1, sl := 2, frz := true, body := (.ret (.bif .sum (.acons (.fz (.comp [1] (.n 1) (.over (.var 0)) .noe (.bin .shl (.int 1) (.var 1)))) .anil))) }
def f11 : FD := { ar := 2, sl := 3, frz := true, body := (.seq (.fors (.n 2) (.over (.var 0)) (.ifs (.call 8 (.acons (.var 1) (.acons (.call 7 (.acons (.var 2) .anil)) .anil))) (.aug 1 .xor (.var 2)) .skip)) (.ret (.var 1))) }
def f12 : FD := { ar := 2, sl := 5, frz := true, body := (.seq (.set 2 (.call 11 (.acons (.var 0) (.acons (.var 1) .anil)))) (.seq (.ifs (.cmp .eq (.var 2) (.int 0)) (.ret (.var 0)) .skip) (.seq (.set 3 (.call 7 (.acons (.var 2) .anil))) (.ret (.bif .tuple (.acons (.fz (.srt true (.fz (.cat (.fz (.comp [4] (.n 4) (.over (.var 0)) .noe (.ite (.call 8 (.acons (.var 4) (.acons (.var 3) .anil))) (.bin .xor (.var 4) (.var 2)) (.var 4)))) (.fz (.disp (.acons (.var 2) .anil))))))) .anil)))))) }
def f13 : FD := { ar := 1, sl := 3, frz := true, body := (.seq (.set 1 (.tup .anil)) (.seq (.fors (.n 2) (.over (.var 0)) (.set 1 (.call 12 (.acons (.var 1) (.acons (.var 2) .anil))))) (.ret (.var 1)))) }
def f14 : FD := { ar := 1, sl := 2, frz := true, body := (.ret (.fz (.comp [1] (.n 1) (.over (.var 0)) .noe (.call 7 (.acons (.var 1) .anil))))) }
def f15 : FD := { ar := 2, sl := 4, frz := true, body := (.seq (.set 2 (.call 14 (.acons (.var 1) .anil))) (.ret (.fz (.comp [3] (.n 3) (.range (.acons (.var 0) .anil)) (.sm (.cmp .notin (.var 3) (.var 2))) (.var 3))))) }
def f16 : FD := { ar := 1, sl := 4, frz := true, body := (.seq (.set 1 (.th (.disp (.acons (.int 0) .anil)))) (.seq (.fors (.n 2) (.over (.rev (.var 0))) (.ex (.mth .extend (.var 1) (.acons (.fz (.comp [3] (.n 3) (.over (.fz (.listof (.var 1)))) .noe (.bin .xor (.var 3) (.var 2)))) .anil)))) (.ret (.var 1)))) }
def f17 : FD := { ar := 1, sl := 1, frz := true, body := (.ifs (.not (.call 1 (.acons (.var 0) (.acons (.int 1) (.acons (.gl 0) .anil))))) .never .skip) }
def f18 : FD := { ar := 2, sl := 2, frz := true, body := (.ifs (.not (.call 2 (.acons (.var 0) (.acons (.var 1) .anil)))) .never .skip) }
def f19 : FD := { ar := 2, sl := 2, frz := true, body := (.ifs (.not (.call 3 (.acons (.var 0) (.acons (.var 1) .anil)))) .never .skip) }
def f20 : FD := { ar := 2, sl := 2, frz := true, body := (.seq (.ex (.call 17 (.acons (.var 0) .anil))) (.ex (.call 19 (.acons (.var 0) (.acons (.var 1) .anil))))) }
def f21 : FD := { ar := 3, sl := 3, frz := true, body := (.seq (.ex (.call 20 (.acons (.var 0) (.acons (.var 1) .anil)))) (.ex (.call 18 (.acons (.var 0) (.acons (.var 2) .anil))))) }
def f22 : FD := { ar := 2, sl := 2, frz := true, body := (.seq (.ex (.call 17 (.acons (.var 0) .anil))) (.ret (.call 2 (.acons (.var 0) (.acons (.var 1) .anil))))) }
def f23 : FD := { ar := 1, sl := 1, frz := true, body := (.seq (.ex (.call 18 (.acons (.gl 0) (.acons (.var 0) .anil)))) (.ret (.call 5 (.acons (.var 0) .anil)))) }
def f24 : FD := { ar := 2, sl := 2, frz := true, body := (.seq (.ex (.call 18 (.acons (.gl 0) (.acons (.var 0) .anil)))) (.seq (.ex (.call 18 (.acons (.gl 0) (.acons (.var 1) .anil)))) (.ret (.call 6 (.acons (.var 0) (.acons (.var 1) .anil)))))) }
def f25 : FD := { ar := 1, sl := 1, frz := true, body := (.seq (.ex (.call 18 (.acons (.gl 0) (.acons (.var 0) .anil)))) (.ret (.bif .tuple (.acons (.call 9 (.acons (.var 0) .anil)) .anil)))) }
def f26 : FD := { ar := 1, sl := 1, frz := true, body := (.seq (.ifs (.not (.call 4 (.acons (.var 0) (.acons (.bin .sub (.gl 0) (.int 1)) .anil)))) .never .skip) (.ret (.call 10 (.acons (.var 0) .anil)))) }
def f27 : FD := { ar := 2, sl := 2, frz := true, body := (.seq (.ex (.call 20 (.acons (.var 0) (.acons (.var 1) .anil)))) (.ret (.call 13 (.acons (.var 1) .anil)))) }
def f28 : FD := { ar := 2, sl := 2, frz := true, body := (.seq (.ex (.call 20 (.acons (.var 0) (.acons (.var 1) .anil)))) (.ret (.bif .tuple (.acons (.call 15 (.acons (.var 0) (.acons (.call 13 (.acons (.var 1) .anil)) .anil))) .anil)))) }
def f29 : FD := { ar := 3, sl := 3, frz := true, body := (.seq (.ex (.call 21 (.acons (.var 0) (.acons (.var 1) (.acons (.var 2) .anil))))) (.ret (.call 11 (.acons (.call 13 (.acons (.var 1) .anil)) (.acons (.var 2) .anil))))) }
def f30 : FD := { ar := 2, sl := 3, frz := true, body := (.seq (.ex (.call 20 (.acons (.var 0) (.acons (.var 1) .anil)))) (.seq (.set 2 (.call 13 (.acons (.var 1) .anil))) (.seq (.ifs (.cmp .gt (.bif .len (.acons (.var 2) .anil)) (.gl 2)) .never .skip) (.ret (.bif .tuple (.acons (.call 16 (.acons (.var 2) .anil)) .anil)))))) }
def f31 : FD := { ar := 2, sl := 5, frz := false, body := (.seq (.set 2 (.ite (.cmp .lt (.var 1) (.bif .len (.acons (.var 0) .anil))) (.bif .int (.acons (.sub (.var 0) (.var 1)) .anil)) (.bin .add (.bin .mul (.int 167) (.var 1)) (.int 59)))) (.seq (.set 3 (.bin .mod (.bif .abs (.acons (.var 2) .anil)) (.bin .pow (.bin .pow (.int 10) (.int 57)) (.int 7)))) (.seq (.set 4 (.bif .int (.acons (.bin .add (.bin .add (.bin .add (.bin .mul (.bin .mod (.var 3) (.int 2305843009213693921)) (.int 61)) (.bin .mul (.int 6473) (.var 1))) (.bin .mul (.int 31) (.bif .int (.acons (.cmp .lt (.var 2) (.int 0)) .anil)))) (.int 89)) .anil))) (.ret (.th (.disp (.acons (.bif .max2 (.acons (.int 0) (.acons (.bin .sub (.var 3) (.bin .pow (.int 10) (.int 16))) .anil))) (.acons (.bin .mod (.var 4) (.int 2305843009213693951)) (.acons (.int 0) .anil))))))))) }
def f32 : FD := { ar := 2, sl := 5, frz := true, body := (.seq (.ifs (.cmp .gt (.sub (.var 0) (.int 0)) (.int 0)) (.seq (.set 4 (.bin .mod (.bif .int (.acons (.sub (.var 0) (.int 0)) .anil)) (.var 1))) (.seq (.sets (.var 0) (.int 0) (.bin .fdiv (.sub (.var 0) (.int 0)) (.var 1))) (.ret (.var 4)))) .skip) (.seq (.sets (.var 0) (.int 2) (.bin .add (.sub (.var 0) (.int 2)) (.int 1))) (.seq (.set 2 (.bin .mod (.bif .int (.acons (.bin .add (.sub (.var 0) (.int 1)) (.bin .mul (.int 67867979) (.sub (.var 0) (.int 2)))) .anil)) (.int 2305843009213693951))) (.seq (.set 3 (.bin .add (.bin .add (.bin .mul (.bin .mod (.bif .int (.acons (.bin .add (.bin .mul (.var 2) (.var 2)) (.int 49979687)) .anil)) (.int 2305843009213693907)) (.int 86028121)) (.var 2)) (.bin .mul (.int 23) (.sub (.var 0) (.int 2))))) (.ret (.bin .mod (.bif .int (.acons (.bin .fdiv (.var 3) (.int 65537)) .anil)) (.var 1))))))) }
def f33 : FD := { ar := 2, sl := 2, frz := true, body := (.ret (.sub (.var 1) (.call 32 (.acons (.var 0) (.acons (.bif .len (.acons (.var 1) .anil)) .anil))))) }
def f34 : FD := { ar := 1, sl := 2, frz := true, body := (.seq (.set 1 (.int 0)) (.seq (.whiles (.cmp .gt (.var 0) (.int 0)) (.par [1, 0] (.acons (.bin .add (.var 1) (.bin .mod (.var 0) (.int 2))) (.acons (.bin .fdiv (.var 0) (.int 2)) .anil)))) (.ret (.var 1)))) }
def f35 : FD := { ar := 2, sl := 2, frz := true, body := (.ret (.bin .mod (.bif .int (.acons (.call 34 (.acons (.bin .and (.var 0) (.var 1)) .anil)) .anil)) (.int 2))) }
def f36 : FD := { ar := 1, sl := 2, frz := true, body := (.seq (.set 1 (.neg (.int 1))) (.seq (.whiles (.cmp .gt (.var 0) (.int 0)) (.par [1, 0] (.acons (.bin .add (.var 1) (.int 1)) (.acons (.bin .fdiv (.var 0) (.int 2)) .anil)))) (.ret (.var 1)))) }
def f37 : FD := { ar := 2, sl := 2, frz := true, body := (.ret (.cmp .eq (.bin .mod (.bif .int (.acons (.bin .fdiv (.var 0) (.bin .shl (.int 1) (.var 1))) .anil)) (.int 2)) (.int 1))) }
def f38 : FD := { ar := 1, sl := 5, frz := true, body := (.seq (.set 1 .dnew) (.seq (.fors (.n 2) (.over (.var 0)) (.seq (.whiles (.and (.cmp .gt (.var 2) (.int 0)) (.cmp .isin (.call 36 (.acons (.var 2) .anil)) (.var 1))) (.set 2 (.bin .xor (.var 2) (.sub (.var 1) (.call 36 (.acons (.var 2) .anil)))))) (.ifs (.cmp .gt (.var 2) (.int 0)) (.sets (.var 1) (.call 36 (.acons (.var 2) .anil)) (.var 2)) .skip))) (.seq (.fors (.n 3) (.over (.fz (.srt false (.var 1)))) (.fors (.n 4) (.over (.fz (.srt false (.var 1)))) (.ifs (.and (.cmp .gt (.var 4) (.var 3)) (.call 37 (.acons (.sub (.var 1) (.var 4)) (.acons (.var 3) .anil)))) (.sets (.var 1) (.var 4) (.bin .xor (.sub (.var 1) (.var 4)) (.sub (.var 1) (.var 3)))) .skip))) (.ret (.bif .tuple (.acons (.rev (.fz (.comp [3] (.n 3) (.over (.fz (.srt false (.var 1)))) .noe (.sub (.var 1) (.var 3))))) .anil)))))) }
def f39 : FD := { ar := 2, sl := 3, frz := true, body := (.seq (.fors (.n 2) (.over (.var 0)) (.ifs (.call 37 (.acons (.var 1) (.acons (.call 36 (.acons (.var 2) .anil)) .anil))) (.set 1 (.bin .xor (.var 1) (.var 2))) .skip)) (.ret (.var 1))) }
def f40 : FD := { ar := 1, sl := 4, frz := true, body := (.seq (.set 1 (.fz (.disp (.acons (.int 0) .anil)))) (.seq (.fors (.n 2) (.over (.var 0)) (.set 1 (.fz (.cat (.var 1) (.fz (.comp [3] (.n 3) (.over (.var 1)) .noe (.bin .xor (.var 3) (.var 2)))))))) (.ret (.fz (.srt false (.var 1)))))) }
def f41 : FD := { ar := 3, sl := 5, frz := true, body := (.seq (.set 3 (.th (.disp .anil))) (.seq (.fors (.n 4) (.range (.acons (.var 2) .anil)) (.ifs (.and (.cmp .gt (.bif .len (.acons (.var 3) .anil)) (.int 1)) (.cmp .eq (.call 32 (.acons (.var 0) (.acons (.int 3) .anil))) (.int 0))) (.ex (.mth .append (.var 3) (.acons (.bin .xor (.call 33 (.acons (.var 0) (.acons (.var 3) .anil))) (.call 33 (.acons (.var 0) (.acons (.var 3) .anil)))) .anil))) (.ex (.mth .append (.var 3) (.acons (.call 32 (.acons (.var 0) (.acons (.bin .shl (.int 1) (.var 1)) .anil))) .anil))))) (.ret (.bif .tuple (.acons (.var 3) .anil))))) }
def f42 : FD := { ar := 2, sl := 7, frz := true, body := (.seq (.par [3, 4] (.acons (.th (.listof (.var 1))) (.acons (.th (.disp .anil)) .anil))) (.seq (.whiles (.cmp .ne (.var 3) (.fz (.disp .anil))) (.ex (.mth .append (.var 4) (.acons (.mth .pop1 (.var 3) (.acons (.call 32 (.acons (.var 0) (.acons (.bif .len (.acons (.var 3) .anil)) .anil))) .anil)) .anil)))) (.seq (.fors (.n 2) (.range (.acons (.ite (.cmp .gt (.bif .len (.acons (.var 4) .anil)) (.int 1)) (.int 3) (.int 0)) .anil)) (.seq (.set 5 (.call 32 (.acons (.var 0) (.acons (.bif .len (.acons (.var 4) .anil)) .anil)))) (.seq (.set 6 (.bin .mod (.bin .add (.bin .add (.var 5) (.int 1)) (.call 32 (.acons (.var 0) (.acons (.bin .sub (.bif .len (.acons (.var 4) .anil)) (.int 1)) .anil)))) (.bif .len (.acons (.var 4) .anil)))) (.sets (.var 4) (.var 5) (.bin .xor (.sub (.var 4) (.var 5)) (.sub (.var 4) (.var 6))))))) (.ret (.bif .tuple (.acons (.fz (.cat (.var 4) (.fz (.disp (.acons (.int 0) .anil))))) .anil)))))) }
def f43 : FD := { ar := 2, sl := 9, frz := true, body := (.seq (.par [5, 6] (.acons (.call 32 (.acons (.var 0) (.acons (.bin .shl (.int 1) (.var 1)) .anil))) (.acons (.call 32 (.acons (.var 0) (.acons (.bin .shl (.int 1) (.var 1)) .anil))) .anil))) (.seq (.set 2 (.bif .tuple (.acons (.fz (.comp [8] (.n 8) (.range (.acons (.var 1) .anil)) (.sm (.call 37 (.acons (.var 5) (.acons (.var 8) .anil)))) (.var 8))) .anil))) (.seq (.ifs (.or (.cmp .ne (.call 23 (.acons (.var 5) .anil)) (.call 34 (.acons (.var 5) .anil))) (.or (.cmp .ne (.call 25 (.acons (.var 5) .anil)) (.var 2)) (.cmp .ne (.call 26 (.acons (.var 2) .anil)) (.var 5)))) (.ret (.bl false)) .skip) (.seq (.ifs (.or (.cmp .ne (.call 24 (.acons (.var 5) (.acons (.var 6) .anil))) (.call 35 (.acons (.var 5) (.acons (.var 6) .anil)))) (.cmp .ne (.call 24 (.acons (.var 5) (.acons (.var 5) .anil))) (.bin .mod (.call 23 (.acons (.var 5) .anil)) (.int 2)))) (.ret (.bl false)) .skip) (.seq (.ifs (.cmp .ne (.call 23 (.acons (.bin .xor (.var 5) (.var 6)) .anil)) (.bin .sub (.bin .add (.call 23 (.acons (.var 5) .anil)) (.call 23 (.acons (.var 6) .anil))) (.bin .mul (.int 2) (.call 34 (.acons (.bin .and (.var 5) (.var 6)) .anil))))) (.ret (.bl false)) .skip) (.seq (.set 3 (.fz (.disp (.acons (.var 5) (.acons (.var 6) (.acons (.int 0) (.acons (.bin .sub (.bin .shl (.int 1) (.var 1)) (.int 1)) (.acons (.bin .shl (.int 1) (.var 1)) (.acons (.neg (.int 1)) (.acons (.bl true) (.acons .non (.acons (.str [49]) (.acons (.tup (.acons (.var 5) .anil)) (.acons (.bin .sub (.bin .sub (.int 0) (.var 5)) (.int 1)) (.acons (.bin .pow (.int 10) (.int 64)) (.acons (.bin .add (.var 5) (.bin .shl (.int 1) (.var 1))) .anil)))))))))))))))) (.seq (.set 4 (.fz (.comp [7] (.n 7) (.over (.var 3)) .noe (.and (.bif .isint (.acons (.var 7) .anil)) (.and (.not (.bif .isbool (.acons (.var 7) .anil))) (.chain .le .lt (.int 0) (.var 7) (.bin .shl (.int 1) (.var 1)))))))) (.ret (.cmp .eq (.fz (.comp [7] (.n 7) (.over (.var 3)) .noe (.call 22 (.acons (.var 1) (.acons (.var 7) .anil))))) (.var 4)))))))))) }
def f44 : FD := { ar := 1, sl := 12, frz := true, body := (.seq (.set 1 (.bin .add (.int 1) (.call 32 (.acons (.var 0) (.acons (.call 33 (.acons (.var 0) (.acons (.fz (.disp (.acons (.int 4) (.acons (.int 10) (.acons (.int 24) .anil))))) .anil))) .anil))))) (.seq (.set 2 (.call 41 (.acons (.var 0) (.acons (.var 1) (.acons (.call 32 (.acons (.var 0) (.acons (.call 33 (.acons (.var 0) (.acons (.fz (.disp (.acons (.int 3) (.acons (.int 8) (.acons (.int 13) .anil))))) .anil))) .anil))) .anil))))) (.seq (.par [5, 6] (.acons (.call 38 (.acons (.var 2) .anil)) (.acons (.call 27 (.acons (.var 1) (.acons (.var 2) .anil))) .anil))) (.seq (.ifs (.or (.cmp .ne (.var 6) (.var 5)) (.or (.cmp .ne (.call 27 (.acons (.var 1) (.acons (.call 42 (.acons (.var 0) (.acons (.var 2) .anil))) .anil))) (.var 5)) (.cmp .ne (.call 27 (.acons (.var 1) (.acons (.var 6) .anil))) (.var 6)))) (.ret (.bl false)) .skip) (.seq (.set 3 (.fz (.comp [7] (.n 7) (.over (.var 5)) .noe (.call 36 (.acons (.var 7) .anil))))) (.seq (.ifs (.cmp .ne (.call 28 (.acons (.var 1) (.acons (.var 2) .anil))) (.bif .tuple (.acons (.fz (.comp [10] (.n 10) (.range (.acons (.var 1) .anil)) (.sm (.cmp .notin (.var 10) (.var 3))) (.var 10))) .anil))) (.ret (.bl false)) .skip) (.seq (.fors (.n 4) (.range (.acons (.int 4) .anil)) (.seq (.set 7 (.call 32 (.acons (.var 0) (.acons (.bin .shl (.int 1) (.var 1)) .anil)))) (.seq (.set 8 (.call 29 (.acons (.var 1) (.acons (.var 2) (.acons (.var 7) .anil))))) (.ifs (.or (.cmp .ne (.var 8) (.call 39 (.acons (.var 5) (.acons (.var 7) .anil)))) (.cmp .ne (.call 29 (.acons (.var 1) (.acons (.var 2) (.acons (.bin .xor (.var 8) (.call 33 (.acons (.var 0) (.acons (.bin .add (.tup (.acons (.int 0) .anil)) (.var 2)) .anil)))) .anil)))) (.var 8))) (.ret (.bl false)) .skip)))) (.seq (.ifs (.cmp .lt (.bif .len (.acons (.var 5) .anil)) (.int 9)) (.seq (.set 9 (.call 30 (.acons (.var 1) (.acons (.var 2) .anil)))) (.ifs (.or (.cmp .ne (.fz (.listof (.var 9))) (.call 40 (.acons (.var 5) .anil))) (.or (.cmp .ne (.var 8) (.bif .minl (.acons (.fz (.comp [11] (.n 11) (.over (.var 9)) .noe (.bin .xor (.var 7) (.var 11)))) .anil))) (.cmp .ne (.bif .len (.acons (.var 9) .anil)) (.bin .shl (.int 1) (.bif .len (.acons (.var 5) .anil)))))) (.ret (.bl false)) .skip)) .skip) (.ret (.call 43 (.acons (.var 0) (.acons (.var 1) .anil)))))))))))) }
def f45 : FD := { ar := 1, sl := 5, frz := true, body := (.seq (.fors (.n 1) (.range (.acons (.bif .max2 (.acons (.int 1) (.acons (.bif .min2 (.acons (.int 3) (.acons (.bif .len (.acons (.var 0) .anil)) .anil))) .anil))) .anil)) (.seq (.set 3 (.call 31 (.acons (.var 0) (.acons (.var 1) .anil)))) (.fors (.n 4) (.range (.acons (.int 5) .anil)) (.ifs (.not (.call 44 (.acons (.var 3) .anil))) (.ret (.bl false)) .skip)))) (.seq (.set 2 (.fz (.disp (.acons (.call 27 (.acons (.int 4) (.acons (.tup (.acons (.int 3) (.acons (.int 5) (.acons (.int 6) .anil)))) .anil))) (.acons (.call 28 (.acons (.int 4) (.acons (.tup (.acons (.int 3) (.acons (.int 5) (.acons (.int 6) .anil)))) .anil))) (.acons (.call 29 (.acons (.int 4) (.acons (.tup (.acons (.int 3) (.acons (.int 5) (.acons (.int 6) .anil)))) (.acons (.int 13) .anil)))) (.acons (.call 30 (.acons (.int 4) (.acons (.tup (.acons (.int 3) (.acons (.int 5) (.acons (.int 6) .anil)))) .anil))) (.acons (.call 27 (.acons (.int 4) (.acons (.tup (.acons (.int 0) .anil)) .anil))) .anil)))))))) (.seq (.ifs (.or (.cmp .ne (.var 2) (.fz (.disp (.acons (.tup (.acons (.int 5) (.acons (.int 3) .anil))) (.acons (.tup (.acons (.int 0) (.acons (.int 3) .anil))) (.acons (.int 8) (.acons (.tup (.acons (.int 0) (.acons (.int 3) (.acons (.int 5) (.acons (.int 6) .anil))))) (.acons (.tup .anil) .anil)))))))) (.or (.cmp .ne (.call 30 (.acons (.int 24) (.acons (.tup .anil) .anil))) (.tup (.acons (.int 0) .anil))) (.cmp .ne (.call 28 (.acons (.int 2) (.acons (.tup .anil) .anil))) (.tup (.acons (.int 0) (.acons (.int 1) .anil)))))) (.ret (.bl false)) .skip) (.ret (.cmp .eq (.fz (.disp (.acons (.call 23 (.acons (.int 11) .anil)) (.acons (.call 24 (.acons (.int 11) (.acons (.int 7) .anil))) (.acons (.call 24 (.acons (.int 11) (.acons (.int 11) .anil))) (.acons (.call 25 (.acons (.int 11) .anil)) (.acons (.call 26 (.acons (.tup (.acons (.int 0) (.acons (.int 1) (.acons (.int 3) .anil)))) .anil)) (.acons (.call 26 (.acons (.tup .anil) .anil)) .anil)))))))) (.fz (.disp (.acons (.int 3) (.acons (.int 0) (.acons (.int 1) (.acons (.tup (.acons (.int 0) (.acons (.int 1) (.acons (.int 3) .anil)))) (.acons (.int 11) (.acons (.int 0) .anil))))))))))))) }
def tab : List TT' := [⟨f0, Str.ofString "is_whole", topS 11⟩, ⟨f1, Str.ofString "is_from", topS 12⟩, ⟨f2, Str.ofString "is_word_in", topS 13⟩, ⟨f3, Str.ofString "are_words_in", topS 14⟩, ⟨f4, Str.ofString "are_ascending", topS 15⟩, ⟨f5, Str.ofString "weight_in", topS 16⟩, ⟨f6, Str.ofString "product_in", topS 17⟩, ⟨f7, Str.ofString "head_of", topS 18⟩, ⟨f8, Str.ofString "has_bit", topS 19⟩, ⟨f9, Str.ofString "places_in", topS 20⟩, ⟨f10, Str.ofString "word_in", topS 21⟩, ⟨f11, Str.ofString "remainder_in", topS 22⟩, ⟨f12, Str.ofString "with_word", topS 23⟩, ⟨f13, Str.ofString "basis_in", topS 24⟩, ⟨f14, Str.ofString "heads_in", topS 25⟩, ⟨f15, Str.ofString "free_in", topS 26⟩, ⟨f16, Str.ofString "span_in", topS 27⟩, ⟨f17, Str.ofString "require_length", topS 28⟩, ⟨f18, Str.ofString "require_word", topS 29⟩, ⟨f19, Str.ofString "require_words", topS 30⟩, ⟨f20, Str.ofString "require_spanned", topS 31⟩, ⟨f21, Str.ofString "require_told", topS 32⟩, ⟨f22, Str.ofString "is_word", topS 33⟩, ⟨f23, Str.ofString "weight", topS 34⟩, ⟨f24, Str.ofString "product", topS 35⟩, ⟨f25, Str.ofString "places_of", topS 36⟩, ⟨f26, Str.ofString "word_of", topS 37⟩, ⟨f27, Str.ofString "basis_of", topS 38⟩, ⟨f28, Str.ofString "free_places", topS 39⟩, ⟨f29, Str.ofString "remainder_of", topS 40⟩, ⟨f30, Str.ofString "span_of", topS 41⟩, ⟨f31, Str.ofString "_law_pail", topS 43⟩, ⟨f32, Str.ofString "_law_scooped", topS 44⟩, ⟨f33, Str.ofString "_law_any_of", topS 45⟩, ⟨f34, Str.ofString "_law_weight", topS 46⟩, ⟨f35, Str.ofString "_law_product", topS 47⟩, ⟨f36, Str.ofString "_law_head", topS 48⟩, ⟨f37, Str.ofString "_law_has", topS 49⟩, ⟨f38, Str.ofString "_law_basis", topS 50⟩, ⟨f39, Str.ofString "_law_rest", topS 51⟩, ⟨f40, Str.ofString "_law_span", topS 52⟩, ⟨f41, Str.ofString "_law_words_drawn", topS 53⟩, ⟨f42, Str.ofString "_law_mixed", topS 54⟩, ⟨f43, Str.ofString "_law_words_right", topS 55⟩, ⟨f44, Str.ofString "_law_right", topS 56⟩, ⟨f45, Str.ofString "law", topS 57⟩]
def cs : List (Str × Vl) := [(Str.ofString "MOST_LENGTH", (.int 24)), (Str.ofString "MOST_WORDS", (.int 64)), (Str.ofString "MOST_SPANNED", (.int 12)), (Str.ofString "PAIR", (.int 2))]
abbrev D : Nm := mkD tab cs
theorem s0 : DS D f0 (Str.ofString "is_whole") (topS 11) [Str.ofString "value"] [Str.ofString "value"] := ⟨⟨rfl, rfl, rfl, by decide +kernel, rfl, by decide +kernel, by decide +kernel⟩, fun _ _ _ _ _ _ us hl => match us, hl with | [_], _ => rfl, rfl, rfl, by decide +kernel⟩
theorem s1 : DS D f1 (Str.ofString "is_from") (topS 12) [Str.ofString "value", Str.ofString "least", Str.ofString "most"] [Str.ofString "value", Str.ofString "least", Str.ofString "most"] := ⟨⟨rfl, rfl, rfl, by decide +kernel, rfl, by decide +kernel, by decide +kernel⟩, fun _ _ _ _ _ _ us hl => match us, hl with | [_, _, _], _ => rfl, rfl, rfl, by decide +kernel⟩
theorem s2 : DS D f2 (Str.ofString "is_word_in") (topS 13) [Str.ofString "length", Str.ofString "value"] [Str.ofString "length", Str.ofString "value"] := ⟨⟨rfl, rfl, rfl, by decide +kernel, rfl, by decide +kernel, by decide +kernel⟩, fun _ _ _ _ _ _ us hl => match us, hl with | [_, _], _ => rfl, rfl, rfl, by decide +kernel⟩
theorem s3 : DS D f3 (Str.ofString "are_words_in") (topS 14) [Str.ofString "length", Str.ofString "value", Str.ofString "one"] [Str.ofString "length", Str.ofString "value"] := ⟨⟨rfl, rfl, rfl, by decide +kernel, rfl, by decide +kernel, by decide +kernel⟩, fun _ _ _ _ _ _ us hl => match us, hl with | [_, _], _ => rfl, rfl, rfl, by decide +kernel⟩
theorem s4 : DS D f4 (Str.ofString "are_ascending") (topS 15) [Str.ofString "value", Str.ofString "most", Str.ofString "one", Str.ofString "other"] [Str.ofString "value", Str.ofString "most"] := ⟨⟨rfl, rfl, rfl, by decide +kernel, rfl, by decide +kernel, by decide +kernel⟩, fun _ _ _ _ _ _ us hl => match us, hl with | [_, _], _ => rfl, rfl, rfl, by decide +kernel⟩
theorem s5 : DS D f5 (Str.ofString "weight_in") (topS 16) [Str.ofString "word", Str.ofString "pairs", Str.ofString "fours"] [Str.ofString "word"] := ⟨⟨rfl, rfl, rfl, by decide +kernel, rfl, by decide +kernel, by decide +kernel⟩, fun _ _ _ _ _ _ us hl => match us, hl with | [_], _ => rfl, rfl, rfl, by decide +kernel⟩
theorem s6 : DS D f6 (Str.ofString "product_in") (topS 17) [Str.ofString "one", Str.ofString "other"] [Str.ofString "one", Str.ofString "other"] := ⟨⟨rfl, rfl, rfl, by decide +kernel, rfl, by decide +kernel, by decide +kernel⟩, fun _ _ _ _ _ _ us hl => match us, hl with | [_, _], _ => rfl, rfl, rfl, by decide +kernel⟩
theorem s7 : DS D f7 (Str.ofString "head_of") (topS 18) [Str.ofString "word"] [Str.ofString "word"] := ⟨⟨rfl, rfl, rfl, by decide +kernel, rfl, by decide +kernel, by decide +kernel⟩, fun _ _ _ _ _ _ us hl => match us, hl with | [_], _ => rfl, rfl, rfl, by decide +kernel⟩
theorem s8 : DS D f8 (Str.ofString "has_bit") (topS 19) [Str.ofString "word", Str.ofString "place"] [Str.ofString "word", Str.ofString "place"] := ⟨⟨rfl, rfl, rfl, by decide +kernel, rfl, by decide +kernel, by decide +kernel⟩, fun _ _ _ _ _ _ us hl => match us, hl with | [_, _], _ => rfl, rfl, rfl, by decide +kernel⟩
theorem s9 : DS D f9 (Str.ofString "places_in") (topS 20) [Str.ofString "word", Str.ofString "place"] [Str.ofString "word"] := ⟨⟨rfl, rfl, rfl, by decide +kernel, rfl, by decide +kernel, by decide +kernel⟩, fun _ _ _ _ _ _ us hl => match us, hl with | [_], _ => rfl, rfl, rfl, by decide +kernel⟩
theorem s10 : DS D f10 (Str.ofString "word_in") (topS 21) [Str.ofString "places", Str.ofString "place"] [Str.ofString "places"] := ⟨⟨rfl, rfl, rfl, by decide +kernel, rfl, by decide +kernel, by decide +kernel⟩, fun _ _ _ _ _ _ us hl => match us, hl with | [_], _ => rfl, rfl, rfl, by decide +kernel⟩
theorem s11 : DS D f11 (Str.ofString "remainder_in") (topS 22) [Str.ofString "basis", Str.ofString "word", Str.ofString "one"] [Str.ofString "basis", Str.ofString "word"] := ⟨⟨rfl, rfl, rfl, by decide +kernel, rfl, by decide +kernel, by decide +kernel⟩, fun _ _ _ _ _ _ us hl => match us, hl with | [_, _], _ => rfl, rfl, rfl, by decide +kernel⟩
theorem s12 : DS D f12 (Str.ofString "with_word") (topS 23) [Str.ofString "basis", Str.ofString "word", Str.ofString "rest", Str.ofString "place", Str.ofString "one"] [Str.ofString "basis", Str.ofString "word"] := ⟨⟨rfl, rfl, rfl, by decide +kernel, rfl, by decide +kernel, by decide +kernel⟩, fun _ _ _ _ _ _ us hl => match us, hl with | [_, _], _ => rfl, rfl, rfl, by decide +kernel⟩
theorem s13 : DS D f13 (Str.ofString "basis_in") (topS 24) [Str.ofString "words", Str.ofString "found", Str.ofString "word"] [Str.ofString "words"] := ⟨⟨rfl, rfl, rfl, by decide +kernel, rfl, by decide +kernel, by decide +kernel⟩, fun _ _ _ _ _ _ us hl => match us, hl with | [_], _ => rfl, rfl, rfl, by decide +kernel⟩
theorem s14 : DS D f14 (Str.ofString "heads_in") (topS 25) [Str.ofString "basis", Str.ofString "word"] [Str.ofString "basis"] := ⟨⟨rfl, rfl, rfl, by decide +kernel, rfl, by decide +kernel, by decide +kernel⟩, fun _ _ _ _ _ _ us hl => match us, hl with | [_], _ => rfl, rfl, rfl, by decide +kernel⟩
theorem s15 : DS D f15 (Str.ofString "free_in") (topS 26) [Str.ofString "length", Str.ofString "basis", Str.ofString "heads", Str.ofString "place"] [Str.ofString "length", Str.ofString "basis"] := ⟨⟨rfl, rfl, rfl, by decide +kernel, rfl, by decide +kernel, by decide +kernel⟩, fun _ _ _ _ _ _ us hl => match us, hl with | [_, _], _ => rfl, rfl, rfl, by decide +kernel⟩
theorem s16 : DS D f16 (Str.ofString "span_in") (topS 27) [Str.ofString "basis", Str.ofString "found", Str.ofString "word", Str.ofString "one"] [Str.ofString "basis"] := ⟨⟨rfl, rfl, rfl, by decide +kernel, rfl, by decide +kernel, by decide +kernel⟩, fun _ _ _ _ _ _ us hl => match us, hl with | [_], _ => rfl, rfl, rfl, by decide +kernel⟩
theorem s17 : DS D f17 (Str.ofString "require_length") (topS 28) [Str.ofString "value"] [Str.ofString "value"] := ⟨⟨rfl, rfl, rfl, by decide +kernel, rfl, by decide +kernel, by decide +kernel⟩, fun _ _ _ _ _ _ us hl => match us, hl with | [_], _ => rfl, rfl, rfl, by decide +kernel⟩
theorem s18 : DS D f18 (Str.ofString "require_word") (topS 29) [Str.ofString "length", Str.ofString "value"] [Str.ofString "length", Str.ofString "value"] := ⟨⟨rfl, rfl, rfl, by decide +kernel, rfl, by decide +kernel, by decide +kernel⟩, fun _ _ _ _ _ _ us hl => match us, hl with | [_, _], _ => rfl, rfl, rfl, by decide +kernel⟩
theorem s19 : DS D f19 (Str.ofString "require_words") (topS 30) [Str.ofString "length", Str.ofString "value"] [Str.ofString "length", Str.ofString "value"] := ⟨⟨rfl, rfl, rfl, by decide +kernel, rfl, by decide +kernel, by decide +kernel⟩, fun _ _ _ _ _ _ us hl => match us, hl with | [_, _], _ => rfl, rfl, rfl, by decide +kernel⟩
theorem s20 : DS D f20 (Str.ofString "require_spanned") (topS 31) [Str.ofString "length", Str.ofString "words"] [Str.ofString "length", Str.ofString "words"] := ⟨⟨rfl, rfl, rfl, by decide +kernel, rfl, by decide +kernel, by decide +kernel⟩, fun _ _ _ _ _ _ us hl => match us, hl with | [_, _], _ => rfl, rfl, rfl, by decide +kernel⟩
theorem s21 : DS D f21 (Str.ofString "require_told") (topS 32) [Str.ofString "length", Str.ofString "words", Str.ofString "word"] [Str.ofString "length", Str.ofString "words", Str.ofString "word"] := ⟨⟨rfl, rfl, rfl, by decide +kernel, rfl, by decide +kernel, by decide +kernel⟩, fun _ _ _ _ _ _ us hl => match us, hl with | [_, _, _], _ => rfl, rfl, rfl, by decide +kernel⟩
theorem s22 : DS D f22 (Str.ofString "is_word") (topS 33) [Str.ofString "length", Str.ofString "value"] [Str.ofString "length", Str.ofString "value"] := ⟨⟨rfl, rfl, rfl, by decide +kernel, rfl, by decide +kernel, by decide +kernel⟩, fun _ _ _ _ _ _ us hl => match us, hl with | [_, _], _ => rfl, rfl, rfl, by decide +kernel⟩
theorem s23 : DS D f23 (Str.ofString "weight") (topS 34) [Str.ofString "word"] [Str.ofString "word"] := ⟨⟨rfl, rfl, rfl, by decide +kernel, rfl, by decide +kernel, by decide +kernel⟩, fun _ _ _ _ _ _ us hl => match us, hl with | [_], _ => rfl, rfl, rfl, by decide +kernel⟩
theorem s24 : DS D f24 (Str.ofString "product") (topS 35) [Str.ofString "one", Str.ofString "other"] [Str.ofString "one", Str.ofString "other"] := ⟨⟨rfl, rfl, rfl, by decide +kernel, rfl, by decide +kernel, by decide +kernel⟩, fun _ _ _ _ _ _ us hl => match us, hl with | [_, _], _ => rfl, rfl, rfl, by decide +kernel⟩
theorem s25 : DS D f25 (Str.ofString "places_of") (topS 36) [Str.ofString "word"] [Str.ofString "word"] := ⟨⟨rfl, rfl, rfl, by decide +kernel, rfl, by decide +kernel, by decide +kernel⟩, fun _ _ _ _ _ _ us hl => match us, hl with | [_], _ => rfl, rfl, rfl, by decide +kernel⟩
theorem s26 : DS D f26 (Str.ofString "word_of") (topS 37) [Str.ofString "places"] [Str.ofString "places"] := ⟨⟨rfl, rfl, rfl, by decide +kernel, rfl, by decide +kernel, by decide +kernel⟩, fun _ _ _ _ _ _ us hl => match us, hl with | [_], _ => rfl, rfl, rfl, by decide +kernel⟩
theorem s27 : DS D f27 (Str.ofString "basis_of") (topS 38) [Str.ofString "length", Str.ofString "words"] [Str.ofString "length", Str.ofString "words"] := ⟨⟨rfl, rfl, rfl, by decide +kernel, rfl, by decide +kernel, by decide +kernel⟩, fun _ _ _ _ _ _ us hl => match us, hl with | [_, _], _ => rfl, rfl, rfl, by decide +kernel⟩
theorem s28 : DS D f28 (Str.ofString "free_places") (topS 39) [Str.ofString "length", Str.ofString "words"] [Str.ofString "length", Str.ofString "words"] := ⟨⟨rfl, rfl, rfl, by decide +kernel, rfl, by decide +kernel, by decide +kernel⟩, fun _ _ _ _ _ _ us hl => match us, hl with | [_, _], _ => rfl, rfl, rfl, by decide +kernel⟩
theorem s29 : DS D f29 (Str.ofString "remainder_of") (topS 40) [Str.ofString "length", Str.ofString "words", Str.ofString "word"] [Str.ofString "length", Str.ofString "words", Str.ofString "word"] := ⟨⟨rfl, rfl, rfl, by decide +kernel, rfl, by decide +kernel, by decide +kernel⟩, fun _ _ _ _ _ _ us hl => match us, hl with | [_, _, _], _ => rfl, rfl, rfl, by decide +kernel⟩
theorem s30 : DS D f30 (Str.ofString "span_of") (topS 41) [Str.ofString "length", Str.ofString "words", Str.ofString "basis"] [Str.ofString "length", Str.ofString "words"] := ⟨⟨rfl, rfl, rfl, by decide +kernel, rfl, by decide +kernel, by decide +kernel⟩, fun _ _ _ _ _ _ us hl => match us, hl with | [_, _], _ => rfl, rfl, rfl, by decide +kernel⟩
theorem s31 : DS D f31 (Str.ofString "_law_pail") (topS 43) [Str.ofString "script", Str.ofString "spot", Str.ofString "cell", Str.ofString "great", Str.ofString "seed"] [Str.ofString "script", Str.ofString "spot"] := ⟨⟨rfl, rfl, rfl, by decide +kernel, rfl, by decide +kernel, by decide +kernel⟩, fun _ _ _ _ _ _ us hl => match us, hl with | [_, _], _ => rfl, rfl, rfl, by decide +kernel⟩
theorem s32 : DS D f32 (Str.ofString "_law_scooped") (topS 44) [Str.ofString "pail", Str.ofString "total", Str.ofString "one", Str.ofString "two", Str.ofString "found"] [Str.ofString "pail", Str.ofString "total"] := ⟨⟨rfl, rfl, rfl, by decide +kernel, rfl, by decide +kernel, by decide +kernel⟩, fun _ _ _ _ _ _ us hl => match us, hl with | [_, _], _ => rfl, rfl, rfl, by decide +kernel⟩
theorem s33 : DS D f33 (Str.ofString "_law_any_of") (topS 45) [Str.ofString "pail", Str.ofString "items"] [Str.ofString "pail", Str.ofString "items"] := ⟨⟨rfl, rfl, rfl, by decide +kernel, rfl, by decide +kernel, by decide +kernel⟩, fun _ _ _ _ _ _ us hl => match us, hl with | [_, _], _ => rfl, rfl, rfl, by decide +kernel⟩
theorem s34 : DS D f34 (Str.ofString "_law_weight") (topS 46) [Str.ofString "word", Str.ofString "found"] [Str.ofString "word"] := ⟨⟨rfl, rfl, rfl, by decide +kernel, rfl, by decide +kernel, by decide +kernel⟩, fun _ _ _ _ _ _ us hl => match us, hl with | [_], _ => rfl, rfl, rfl, by decide +kernel⟩
theorem s35 : DS D f35 (Str.ofString "_law_product") (topS 47) [Str.ofString "one", Str.ofString "other"] [Str.ofString "one", Str.ofString "other"] := ⟨⟨rfl, rfl, rfl, by decide +kernel, rfl, by decide +kernel, by decide +kernel⟩, fun _ _ _ _ _ _ us hl => match us, hl with | [_, _], _ => rfl, rfl, rfl, by decide +kernel⟩
theorem s36 : DS D f36 (Str.ofString "_law_head") (topS 48) [Str.ofString "word", Str.ofString "found"] [Str.ofString "word"] := ⟨⟨rfl, rfl, rfl, by decide +kernel, rfl, by decide +kernel, by decide +kernel⟩, fun _ _ _ _ _ _ us hl => match us, hl with | [_], _ => rfl, rfl, rfl, by decide +kernel⟩
theorem s37 : DS D f37 (Str.ofString "_law_has") (topS 49) [Str.ofString "word", Str.ofString "place"] [Str.ofString "word", Str.ofString "place"] := ⟨⟨rfl, rfl, rfl, by decide +kernel, rfl, by decide +kernel, by decide +kernel⟩, fun _ _ _ _ _ _ us hl => match us, hl with | [_, _], _ => rfl, rfl, rfl, by decide +kernel⟩
theorem s38 : DS D f38 (Str.ofString "_law_basis") (topS 50) [Str.ofString "words", Str.ofString "held", Str.ofString "word", Str.ofString "place", Str.ofString "higher"] [Str.ofString "words"] := ⟨⟨rfl, rfl, rfl, by decide +kernel, rfl, by decide +kernel, by decide +kernel⟩, fun _ _ _ _ _ _ us hl => match us, hl with | [_], _ => rfl, rfl, rfl, by decide +kernel⟩
theorem s39 : DS D f39 (Str.ofString "_law_rest") (topS 51) [Str.ofString "basis", Str.ofString "word", Str.ofString "one"] [Str.ofString "basis", Str.ofString "word"] := ⟨⟨rfl, rfl, rfl, by decide +kernel, rfl, by decide +kernel, by decide +kernel⟩, fun _ _ _ _ _ _ us hl => match us, hl with | [_, _], _ => rfl, rfl, rfl, by decide +kernel⟩
theorem s40 : DS D f40 (Str.ofString "_law_span") (topS 52) [Str.ofString "basis", Str.ofString "found", Str.ofString "word", Str.ofString "one"] [Str.ofString "basis"] := ⟨⟨rfl, rfl, rfl, by decide +kernel, rfl, by decide +kernel, by decide +kernel⟩, fun _ _ _ _ _ _ us hl => match us, hl with | [_], _ => rfl, rfl, rfl, by decide +kernel⟩
theorem s41 : DS D f41 (Str.ofString "_law_words_drawn") (topS 53) [Str.ofString "pail", Str.ofString "length", Str.ofString "many", Str.ofString "found", Str.ofString "turn"] [Str.ofString "pail", Str.ofString "length", Str.ofString "many"] := ⟨⟨rfl, rfl, rfl, by decide +kernel, rfl, by decide +kernel, by decide +kernel⟩, fun _ _ _ _ _ _ us hl => match us, hl with | [_, _, _], _ => rfl, rfl, rfl, by decide +kernel⟩
theorem s42 : DS D f42 (Str.ofString "_law_mixed") (topS 54) [Str.ofString "pail", Str.ofString "words", Str.ofString "turn", Str.ofString "left", Str.ofString "found", Str.ofString "at", Str.ofString "to"] [Str.ofString "pail", Str.ofString "words"] := ⟨⟨rfl, rfl, rfl, by decide +kernel, rfl, by decide +kernel, by decide +kernel⟩, fun _ _ _ _ _ _ us hl => match us, hl with | [_, _], _ => rfl, rfl, rfl, by decide +kernel⟩
theorem s43 : DS D f43 (Str.ofString "_law_words_right") (topS 55) [Str.ofString "pail", Str.ofString "length", Str.ofString "places", Str.ofString "near", Str.ofString "due", Str.ofString "one", Str.ofString "other", Str.ofString "value", Str.ofString "place"] [Str.ofString "pail", Str.ofString "length"] := ⟨⟨rfl, rfl, rfl, by decide +kernel, rfl, by decide +kernel, by decide +kernel⟩, fun _ _ _ _ _ _ us hl => match us, hl with | [_, _], _ => rfl, rfl, rfl, by decide +kernel⟩
theorem s44 : DS D f44 (Str.ofString "_law_right") (topS 56) [Str.ofString "pail", Str.ofString "length", Str.ofString "words", Str.ofString "heads", Str.ofString "turn", Str.ofString "due", Str.ofString "told", Str.ofString "word", Str.ofString "rest", Str.ofString "span", Str.ofString "place", Str.ofString "one"] [Str.ofString "pail"] := ⟨⟨rfl, rfl, rfl, by decide +kernel, rfl, by decide +kernel, by decide +kernel⟩, fun _ _ _ _ _ _ us hl => match us, hl with | [_], _ => rfl, rfl, rfl, by decide +kernel⟩
theorem s45 : DS D f45 (Str.ofString "law") (topS 57) [Str.ofString "script", Str.ofString "spot", Str.ofString "told", Str.ofString "pail", Str.ofString "turn"] [Str.ofString "script"] := ⟨⟨rfl, rfl, rfl, by decide +kernel, rfl, by decide +kernel, by decide +kernel⟩, fun _ _ _ _ _ _ us hl => match us, hl with | [_], _ => rfl, rfl, rfl, by decide +kernel⟩
theorem sall : AllS D tab := ⟨⟨_, _, s0⟩, ⟨_, _, s1⟩, ⟨_, _, s2⟩, ⟨_, _, s3⟩, ⟨_, _, s4⟩, ⟨_, _, s5⟩, ⟨_, _, s6⟩, ⟨_, _, s7⟩, ⟨_, _, s8⟩, ⟨_, _, s9⟩, ⟨_, _, s10⟩, ⟨_, _, s11⟩, ⟨_, _, s12⟩, ⟨_, _, s13⟩, ⟨_, _, s14⟩, ⟨_, _, s15⟩, ⟨_, _, s16⟩, ⟨_, _, s17⟩, ⟨_, _, s18⟩, ⟨_, _, s19⟩, ⟨_, _, s20⟩, ⟨_, _, s21⟩, ⟨_, _, s22⟩, ⟨_, _, s23⟩, ⟨_, _, s24⟩, ⟨_, _, s25⟩, ⟨_, _, s26⟩, ⟨_, _, s27⟩, ⟨_, _, s28⟩, ⟨_, _, s29⟩, ⟨_, _, s30⟩, ⟨_, _, s31⟩, ⟨_, _, s32⟩, ⟨_, _, s33⟩, ⟨_, _, s34⟩, ⟨_, _, s35⟩, ⟨_, _, s36⟩, ⟨_, _, s37⟩, ⟨_, _, s38⟩, ⟨_, _, s39⟩, ⟨_, _, s40⟩, ⟨_, _, s41⟩, ⟨_, _, s42⟩, ⟨_, _, s43⟩, ⟨_, _, s44⟩, ⟨_, _, s45⟩, True.intro⟩
def ds : List FD := tab.map (·.d)
abbrev GG : GT := mkG tab.length (cs.map (·.2))
abbrev FF : Nat → Option FD := mkF (tab.map (·.d))
end Law
set_option Elab.async false
set_option linter.all false
set_option maxRecDepth 100000
set_option maxHeartbeats 1000000
namespace Law
open Mi Gf
theorem run_eq {G : GT} {ft : Nat → Option FD} {n f : Nat} {d : FD} {args : List Vl} {h : Hh} (e : ft f = some d) (hl : args.length = d.ar) :
    run G ft (n + 1) f args h = endF d.frz h.length (evS G (run G ft n) d.body (args.map some ++ List.replicate (d.sl - d.ar) none) h) := by
  show (match ft f with
    | some d => match decide (args.length = d.ar) with
      | true => endF d.frz h.length (evS G (run G ft n) d.body (args.map some ++ List.replicate (d.sl - d.ar) none) h)
      | false => .bad
    | none => .bad) = _
  rw [e]
  dsimp only
  rw [decide_eq_true hl]
theorem end_ret {frz : Bool} {n0 : Nat} {v : Vl} {h : Hh} (e : h.length ≤ n0) : endF frz n0 (.ok (.rt v) h) = .ok v h := by
  unfold endF fin
  cases frz with
  | false => rfl
  | true =>
    dsimp only
    rw [decide_eq_true e]
theorem end_nx {frz : Bool} {n0 : Nat} {env : Env} {h : Hh} (e : h.length ≤ n0) : endF frz n0 (.ok (.nx env) h) = .ok .non h := by
  unfold endF fin
  cases frz with
  | false => rfl
  | true =>
    dsimp only
    rw [decide_eq_true e]
theorem part1 {G : GT} {cf : CF} {env : Env} {h : Hh} : evO G cf (.sm (.int 1)) env h = .ok (some 1) h := rfl
theorem part0 {G : GT} {cf : CF} {env : Env} {h : Hh} : evO G cf .noe env h = .ok none h := rfl
theorem natOf_coe (w : Nat) : natOf (w : Int) = some w := rfl
theorem bnd_ok' {α β : Type} (a : α) (h : Hh) (f : α → Hh → R β) : bnd (.ok a h) f = f a h := rfl
theorem lift_some {α : Type} (a : α) (h : Hh) : lift (some a) h = .ok a h := rfl
theorem bndS_nx (env : Env) (h : Hh) (f : Env → Hh → R Oc) : bndS (.ok (.nx env) h) f = f env h := rfl
theorem bndS_rt (v : Vl) (h : Hh) (f : Env → Hh → R Oc) : bndS (.ok (.rt v) h) f = .ok (.rt v) h := rfl
theorem run_ret {G : GT} {ft : Nat → Option FD} {n f : Nat} {d : FD} {args : List Vl} {h : Hh} {v : Vl} (e : ft f = some d) (hl : args.length = d.ar)
    (hv : evS G (run G ft n) d.body (args.map some ++ List.replicate (d.sl - d.ar) none) h = .ok (.rt v) h) : run G ft (n + 1) f args h = .ok v h := by
  rw [run_eq e hl, hv]
  exact end_ret (Nat.le_refl _)
theorem run_nx {G : GT} {ft : Nat → Option FD} {n f : Nat} {d : FD} {args : List Vl} {h : Hh} {env : Env} (e : ft f = some d) (hl : args.length = d.ar)
    (hv : evS G (run G ft n) d.body (args.map some ++ List.replicate (d.sl - d.ar) none) h = .ok (.nx env) h) : run G ft (n + 1) f args h = .ok .non h := by
  rw [run_eq e hl, hv]
  exact end_nx (Nat.le_refl _)
theorem forL_fold {α σ : Type} {turn : Vl → Env → Hh → R Oc} {g : α → Vl} {E : σ → Env} {step : σ → α → σ} {h : Hh} : ∀ {xs : List α} {s : σ}, (∀ x ∈ xs, ∀ s, turn (g x) (E s) h = .ok (.nx (E (step s x))) h) → forL turn (xs.map g) (E s) h = .ok (.nx (E (xs.foldl step s))) h
  | [], s, _ => rfl
  | x :: xs, s, k => by
    show (match turn (g x) (E s) h with
      | .ok (.nx env1) h1 => forL turn (xs.map g) env1 h1
      | .ok (.ct env1) h1 => forL turn (xs.map g) env1 h1
      | .ok (.bk env1) h1 => .ok (.nx env1) h1
      | .ok (.rt v) h1 => .ok (.rt v) h1
      | .exc c p h1 => .exc c p h1
      | .bad => .bad) = _
    rw [k x List.mem_cons_self s]
    exact forL_fold fun y hy => k y (List.mem_cons_of_mem _ hy)
theorem forL_inv {α σ : Type} {turn : Vl → Env → Hh → R Oc} {g : α → Vl} {E : σ → Env} {step : σ → α → σ} {I : σ → Prop} {h : Hh} : ∀ {xs : List α} {s : σ}, I s → (∀ x ∈ xs, ∀ s, I s → turn (g x) (E s) h = .ok (.nx (E (step s x))) h ∧ I (step s x)) → forL turn (xs.map g) (E s) h = .ok (.nx (E (xs.foldl step s))) h
  | [], s, _, _ => rfl
  | x :: xs, s, i, k => by
    show (match turn (g x) (E s) h with
      | .ok (.nx env1) h1 => forL turn (xs.map g) env1 h1
      | .ok (.ct env1) h1 => forL turn (xs.map g) env1 h1
      | .ok (.bk env1) h1 => .ok (.nx env1) h1
      | .ok (.rt v) h1 => .ok (.rt v) h1
      | .exc c p h1 => .exc c p h1
      | .bad => .bad) = _
    obtain ⟨k1, k2⟩ := k x List.mem_cons_self s i
    rw [k1]
    exact forL_inv k2 fun y hy => k y (List.mem_cons_of_mem _ hy)
theorem forL_f {α σ : Type} {turn : Vl → Env → Hh → R Oc} {g : α → Vl} {h : Hh} {xs : List α} {env : Env} (E : σ → Env) (step : σ → α → σ) (s : σ) (he : env = E s) (k : ∀ x ∈ xs, ∀ s, turn (g x) (E s) h = .ok (.nx (E (step s x))) h) : forL turn (xs.map g) env h = .ok (.nx (E (xs.foldl step s))) h := by
  subst he
  exact forL_fold k
theorem forL_i {α σ : Type} {turn : Vl → Env → Hh → R Oc} {g : α → Vl} {h : Hh} {xs : List α} {env : Env} (E : σ → Env) (step : σ → α → σ) (I : σ → Prop) (s : σ) (he : env = E s) (i : I s) (k : ∀ x ∈ xs, ∀ s, I s → turn (g x) (E s) h = .ok (.nx (E (step s x))) h ∧ I (step s x)) : forL turn (xs.map g) env h = .ok (.nx (E (xs.foldl step s))) h := by
  subst he
  exact forL_inv i k
theorem compL_filter {α : Type} {turn : Vl → Hh → R (Option Vl)} {g k : α → Vl} {p : α → Bool} {h : Hh} : ∀ {xs : List α} {acc : List Vl}, acc.length + xs.length ≤ line → (∀ x ∈ xs, turn (g x) h = .ok (if p x then some (k x) else none) h) → compL turn (xs.map g) acc h = .ok (acc ++ (xs.filter p).map k) h
  | [], acc, _, _ => by simp [compL]
  | x :: xs, acc, hl, q => by
    rw [List.map_cons]
    unfold compL
    rw [q x List.mem_cons_self]
    rw [List.length_cons] at hl
    cases hp : p x with
    | true =>
      simp only [if_true, noX, bnd_ok']
      rw [if_pos (by omega), compL_filter (by rw [List.length_append, List.length_singleton]; omega) fun y hy => q y (List.mem_cons_of_mem _ hy), List.filter_cons_of_pos hp, List.map_cons, List.append_assoc]
      rfl
    | false =>
      simp only [Bool.false_eq_true, if_false, noX, bnd_ok']
      rw [compL_filter (by omega) fun y hy => q y (List.mem_cons_of_mem _ hy), List.filter_cons_of_neg (by rw [hp]; exact Bool.false_ne_true)]
theorem compL_map {α : Type} {turn : Vl → Hh → R (Option Vl)} {g k : α → Vl} {h : Hh} {xs : List α} {acc : List Vl} (hl : acc.length + xs.length ≤ line) (q : ∀ x ∈ xs, turn (g x) h = .ok (some (k x)) h) : compL turn (xs.map g) acc h = .ok (acc ++ xs.map k) h := by
  have := compL_filter (p := fun _ => true) hl q
  rwa [List.filter_eq_self.mpr (fun _ _ => rfl)] at this
def iv (w : Nat) : Vl := .int w
section
variable {h : Hh}
theorem iv_xor (a b : Nat) : binV .xor h (iv a) (iv b) = some (iv (a ^^^ b)) := rfl
theorem iv_and (a b : Nat) : binV .and h (iv a) (iv b) = some (iv (a &&& b)) := rfl
theorem iv_add (a b : Nat) : binV .add h (iv a) (iv b) = some (iv (a + b)) := rfl
theorem iv_axor (a b : Nat) : augV .xor h (iv a) (iv b) = some (iv (a ^^^ b)) := rfl
theorem iv_aadd (a b : Nat) : augV .add h (iv a) (iv b) = some (iv (a + b)) := rfl
theorem iv_eq (a b : Nat) : cmpV .eq h (iv a) (iv b) = some (decide (a = b)) := by
  show some ((a : Int) == (b : Int)) = _
  congr 1
  by_cases e : a = b
  · subst e; simp
  · rw [decide_eq_false e, beq_eq_false_iff_ne]; omega
theorem iv_ne (a b : Nat) : cmpV .ne h (iv a) (iv b) = some (!decide (a = b)) := by
  have := iv_eq (h := h) a b
  show (match cmpV .eq h (iv a) (iv b) with | some b => some (!b) | none => none) = _
  rw [this]
theorem iv_lt (a b : Nat) : cmpV .lt h (iv a) (iv b) = some (decide (a < b)) := by
  show some (decide ((a : Int) < b)) = _
  simp
theorem iv_gt (a b : Nat) : cmpV .gt h (iv a) (iv b) = some (decide (b < a)) := by
  show some (decide ((b : Int) < a)) = _
  simp
theorem iv_le (a b : Nat) : cmpV .le h (iv a) (iv b) = some (decide (a ≤ b)) := by
  show some (decide ((a : Int) ≤ b)) = _
  simp
theorem tru_bl (b : Bool) : truth h (.bl b) = some b := rfl
theorem int_iv (k : Nat) : Vl.int (OfNat.ofNat k) = iv k := rfl
theorem int0 : Vl.int 0 = iv 0 := rfl
theorem int1 : Vl.int 1 = iv 1 := rfl
theorem int2 : Vl.int 2 = iv 2 := rfl
end
theorem range_iv : ∀ (n a : Nat), rangeL n a 1 = (List.range' a n).map iv
  | 0, _ => rfl
  | n + 1, a => by
    show Vl.int a :: rangeL n ((a : Int) + 1) 1 = _
    rw [List.range'_succ, List.map_cons, show ((a : Int) + 1) = ((a + 1 : Nat) : Int) from rfl, range_iv n]
    rfl
theorem range_iv0 (n : Nat) : rangeL n 0 1 = (List.range n).map iv := by
  rw [List.range_eq_range']
  exact range_iv n 0
theorem ints_iv : ∀ ws : List Nat, intsOf (ws.map iv) = some (ws.map (fun w : Nat => (w : Int)))
  | [] => rfl
  | w :: ws => by
    show (match intsOf (ws.map iv) with | some l => some ((w : Int) :: l) | none => none) = _
    rw [ints_iv ws]
    rfl
theorem line_big : 100000 ≤ line := by decide
section
variable {n : Nat} {h : Hh}
theorem r0 (i : Int) : run GG FF (n + 1) 0 [.int i] h = .ok (.bl true) h := by
  rw [run_eq (d := f0) rfl rfl]
  exact end_ret (Nat.le_refl _)
theorem r1 (i a b : Int) : run GG FF (n + 2) 1 [.int i, .int a, .int b] h = .ok (.bl (decide (a ≤ i ∧ i ≤ b))) h := by
  rw [run_eq (d := f1) rfl rfl]
  have e : evS GG (run GG FF (n + 1)) f1.body [some (.int i), some (.int a), some (.int b)] h = .ok (.rt (.bl (decide (a ≤ i ∧ i ≤ b)))) h := by
    simp only [f1, evS, evE, evA, List.getElem?_cons_zero, List.getElem?_cons_succ, bnd_ok', r0, cmpV]
    by_cases h1 : a ≤ i
    · simp only [h1, decide_true, true_and, bnd_ok']
    · simp only [h1, decide_false, false_and, bnd_ok']
  rw [show (List.map some [Vl.int i, Vl.int a, Vl.int b] ++ List.replicate (f1.sl - f1.ar) none) = [some (.int i), some (.int a), some (.int b)] from rfl, e]
  exact end_ret (Nat.le_refl _)
theorem shl1 {l : Nat} (hl : l ≤ 1000) : binI .shl 1 (l : Int) = some ((2 ^ l : Nat) : Int) := by
  unfold binI
  rw [natOf_coe]
  dsimp only
  have h1 : (1 : Int).natAbs.log2 = 0 := by decide
  rw [h1, if_pos (by omega), Int.one_mul]
  rfl
theorem r2 (l : Nat) (hl : l ≤ 1000) (i : Int) : run GG FF (n + 2) 2 [.int l, .int i] h = .ok (.bl (decide (0 ≤ i ∧ i < (2 ^ l : Nat)))) h := by
  refine run_ret (d := f2) rfl rfl ?_
  show evS GG (run GG FF (n + 1)) f2.body [some (.int l), some (.int i)] h = _
  simp only [f2, evS, evE, evA, List.getElem?_cons_zero, List.getElem?_cons_succ, bnd_ok', r0, cmpV, binV, shl1 hl, lift_some]
  by_cases h1 : 0 ≤ i
  · simp only [h1, decide_true, true_and, bnd_ok']
  · simp only [h1, decide_false, false_and, bnd_ok']
theorem r2w (l : Nat) (hl : l ≤ 1000) (w : Nat) (hw : w < 2 ^ l) : run GG FF (n + 2) 2 [.int l, iv w] h = .ok (.bl true) h := by
  unfold iv
  rw [r2 l hl, decide_eq_true ⟨by omega, by omega⟩]
theorem bls_true (p : List Nat) : blsOf (p.map fun _ => Vl.bl true) = some (p.map fun _ => true) := by
  induction p with
  | nil => rfl
  | cons x p ih =>
    show (match blsOf (p.map fun _ => Vl.bl true) with | some l => some (true :: l) | none => none) = _
    rw [ih]
    rfl
theorem r3 (l : Nat) (hl : l ≤ 1000) (ws : List Nat) (hw : ∀ w ∈ ws, w < 2 ^ l) (hz : ws.length ≤ 64) : run GG FF (n + 3) 3 [.int l, .tup (ws.map iv)] h = .ok (.bl true) h := by
  refine run_ret (d := f3) rfl rfl ?_
  show evS GG (run GG FF (n + 2)) f3.body [some (.int l), some (.tup (ws.map iv)), none] h = _
  have gv : GG.gv 1 = some (.int 64) := rfl
  simp only [f3, evS, evE, evA, evF, evW, evC, List.getElem?_cons_zero, List.getElem?_cons_succ, bnd_ok', cmpV, lift_some, bifV, arg1, isV, kdOf, isKd, lenV, seqOf, gv, List.length_map]
  have h1 : decide ((ws.length : Int) ≤ 64) = true := decide_eq_true (by omega)
  simp only [h1, walkC]
  rw [compL_map (k := fun _ => .bl true) (by have := line_big; simp; omega) ?_]
  · simp only [bnd_ok', List.nil_append, ofBls, lstOf, bls_true, List.all_map]
    simp [lift_some, bnd_ok']
  · intro x hx
    simp only [tgV, wipeE, putE, List.set_cons_zero, List.set_cons_succ, List.getElem?_cons_zero, List.getElem?_cons_succ, bnd_ok']
    rw [r2w l hl x (hw x hx)]
    rfl
theorem shrN (w p : Nat) : binI .shr (w : Int) (p : Int) = some ((w / 2 ^ p : Nat) : Int) := by
  unfold binI
  rw [natOf_coe]
  dsimp only
  rw [Int.natCast_ediv, Int.natCast_pow]
  rfl
theorem andN (a b : Nat) : binI .and (a : Int) (b : Int) = some ((a &&& b : Nat) : Int) := rfl
theorem xorN (a b : Nat) : binI .xor (a : Int) (b : Int) = some ((a ^^^ b : Nat) : Int) := rfl
theorem addN (a b : Nat) : binI .add (a : Int) (b : Int) = some ((a + b : Nat) : Int) := rfl
theorem subN {a b : Nat} (h : b ≤ a) : binI .sub (a : Int) (b : Int) = some ((a - b : Nat) : Int) := by
  show some ((a : Int) - b) = _
  rw [Int.ofNat_sub h]
theorem modN {a b : Nat} (h : 0 < b) : binI .mod (a : Int) (b : Int) = some ((a % b : Nat) : Int) := by
  show (if (0 : Int) < (b : Int) then some ((a : Int) % b) else none) = _
  rw [if_pos (by omega)]
  rfl
def wt1 (w : Nat) : Nat := w - ((w / 2) &&& 5592405)
def wt2 (v : Nat) : Nat := (v &&& 3355443) + ((v / 4) &&& 3355443)
def wt (w : Nat) : Nat := ((wt2 (wt1 w) + wt2 (wt1 w) / 16) &&& 986895) % 255
theorem r5 (w : Nat) : run GG FF (n + 1) 5 [iv w] h = .ok (iv (wt w)) h := by
  refine run_ret (d := f5) rfl rfl ?_
  show evS GG (run GG FF n) f5.body [some (iv w), none, none] h = _
  have hle : (w / 2) &&& 5592405 ≤ w := Nat.le_trans Nat.and_le_left (Nat.div_le_self _ _)
  have e1 := shrN w 1
  have e2 := andN (w / 2 ^ 1) 5592405
  have e3 := subN hle
  have e4 := andN (wt1 w) 3355443
  have e5 := shrN (wt1 w) 2
  have e6 := andN (wt1 w / 2 ^ 2) 3355443
  have e7 := addN (wt1 w &&& 3355443) ((wt1 w / 2 ^ 2) &&& 3355443)
  have e8 := shrN (wt2 (wt1 w)) 4
  have e9 := addN (wt2 (wt1 w)) (wt2 (wt1 w) / 2 ^ 4)
  have e10 := andN (wt2 (wt1 w) + wt2 (wt1 w) / 2 ^ 4) 986895
  have e11 := modN (a := (wt2 (wt1 w) + wt2 (wt1 w) / 2 ^ 4) &&& 986895) (b := 255) (by decide)
  unfold iv
  simp only [f5, evS, evE, List.getElem?_cons_zero, List.getElem?_cons_succ, bnd_ok', binV, lift_some, bndS_nx, putE, List.set_cons_zero, List.set_cons_succ]
  erw [e1]
  simp only [lift_some, bnd_ok']
  erw [e2]
  simp only [lift_some, bnd_ok']
  erw [e3]
  simp only [lift_some, bnd_ok', bndS_nx, List.set_cons_zero, List.set_cons_succ, List.getElem?_cons_zero, List.getElem?_cons_succ]
  erw [e4]
  simp only [lift_some, bnd_ok']
  erw [e5]
  simp only [lift_some, bnd_ok']
  erw [e6]
  simp only [lift_some, bnd_ok']
  erw [e7]
  simp only [lift_some, bnd_ok', bndS_nx, List.set_cons_zero, List.set_cons_succ, List.getElem?_cons_zero, List.getElem?_cons_succ]
  erw [e8]
  simp only [lift_some, bnd_ok']
  erw [e9]
  simp only [lift_some, bnd_ok']
  erw [e10]
  simp only [lift_some, bnd_ok']
  erw [e11]
  rfl
theorem r6 (a b : Nat) : run GG FF (n + 2) 6 [iv a, iv b] h = .ok (iv (wt (a &&& b) % 2)) h := by
  refine run_ret (d := f6) rfl rfl ?_
  show evS GG (run GG FF (n + 1)) f6.body [some (iv a), some (iv b)] h = _
  have gv : GG.gv 3 = some (.int 2) := rfl
  have e1 := andN a b
  have e2 := modN (a := wt (a &&& b)) (b := 2) (by decide)
  unfold iv
  simp only [f6, evS, evE, evA, List.getElem?_cons_zero, List.getElem?_cons_succ, bnd_ok', binV, lift_some, gv, e1]
  erw [r5 (a &&& b)]
  unfold iv
  simp only [bnd_ok']
  erw [e2]
  rfl
theorem r7 (w : Nat) (hw : w ≠ 0) : run GG FF (n + 1) 7 [iv w] h = .ok (iv w.log2) h := by
  refine run_ret (d := f7) rfl rfl ?_
  show evS GG (run GG FF n) f7.body [some (iv w)] h = _
  unfold iv
  have hz : ¬ ((w : Int) = 0) := by omega
  simp only [f7, evS, evE, evA, List.getElem?_cons_zero, bnd_ok', rcv, mthV, bitsV, hz, if_false, Int.natAbs_natCast, binV]
  erw [subN (a := w.log2 + 1) (b := 1) (by omega)]
  rfl
theorem r8 (w p : Nat) : run GG FF (n + 1) 8 [iv w, iv p] h = .ok (.bl (w.testBit p)) h := by
  refine run_ret (d := f8) rfl rfl ?_
  show evS GG (run GG FF n) f8.body [some (iv w), some (iv p)] h = _
  unfold iv
  simp only [f8, evS, evE, evA, List.getElem?_cons_zero, List.getElem?_cons_succ, bnd_ok', binV, shrN, lift_some]
  erw [andN (w / 2 ^ p) 1]
  simp only [lift_some, bnd_ok', cmpV, pyEq, deref, pl, eqV]
  have e : (((((w / 2 ^ p) &&& 1 : Nat) : Int)) == 1) = w.testBit p := by
    rw [Nat.and_one_is_mod, Nat.testBit_eq_decide_div_mod_eq]
    cases Nat.mod_two_eq_zero_or_one (w / 2 ^ p) with
    | inl z => rw [z]; rfl
    | inr z => rw [z]; rfl
  rw [e]
def bits (w : Nat) : Nat := if w = 0 then 0 else w.log2 + 1
theorem bits_iv (w : Nat) : bitsV h (iv w) = .ok (iv (bits w)) h := by
  unfold bitsV iv bits
  by_cases hz : w = 0
  · subst hz
    rfl
  · have : ¬ ((w : Int) = 0) := by omega
    dsimp only
    rw [if_neg this, if_neg hz]
    rfl
def plcs (w : Nat) : List Nat := (List.range (bits w)).filter fun p => w.testBit p
theorem r9 (w : Nat) (hb : bits w ≤ 1000) : run GG FF (n + 2) 9 [iv w] h = .ok (.lst ((plcs w).map iv)) h := by
  refine run_ret (d := f9) rfl rfl ?_
  show evS GG (run GG FF (n + 1)) f9.body [some (iv w), none] h = _
  simp only [f9, evS, evE, evA, evF, evW, evC, List.getElem?_cons_zero, List.getElem?_cons_succ, bnd_ok', lift_some, mthV, rcv, bits_iv]
  have e : rangeL ((bits w : Int)).toNat 0 1 = (List.range (bits w)).map iv := by rw [Int.toNat_natCast, range_iv0]
  simp only [iv, Int.natAbs_natCast, decide_eq_true (show bits w < 1000000000 by omega), e, walkC, bnd_ok']
  rw [compL_filter (p := fun p => w.testBit p) (k := iv) (by have := line_big; simp; omega) ?_]
  · rfl
  · intro p hp
    simp only [tgV, wipeE, putE, List.set_cons_zero, List.set_cons_succ, List.getElem?_cons_zero, List.getElem?_cons_succ, bnd_ok']
    erw [r8 w p]
    cases w.testBit p <;> rfl
theorem sumI_iv : ∀ l : List Nat, sumI (l.map (fun w : Nat => (w : Int))) = ((l.sum : Nat) : Int)
  | [] => rfl
  | x :: r => by
    show (x : Int) + sumI (r.map (fun w : Nat => (w : Int))) = _
    rw [sumI_iv r, List.sum_cons]
    rfl
theorem r10 (ps : List Nat) (hp : ∀ p ∈ ps, p ≤ 1000) (hl : ps.length ≤ 1000) : run GG FF (n + 1) 10 [.tup (ps.map iv)] h = .ok (iv (ps.map (2 ^ ·)).sum) h := by
  refine run_ret (d := f10) rfl rfl ?_
  show evS GG (run GG FF n) f10.body [some (.tup (ps.map iv)), none] h = _
  simp only [f10, evS, evE, evA, evF, evW, evC, List.getElem?_cons_zero, List.getElem?_cons_succ, bnd_ok', lift_some, walkC]
  rw [compL_map (k := fun p => iv (2 ^ p)) (by have := line_big; simp; omega) ?_]
  · have e : ps.map (fun p => iv (2 ^ p)) = (ps.map (2 ^ ·)).map iv := by rw [List.map_map]; rfl
    simp only [bnd_ok', List.nil_append, bifV, arg1, ofInts, lstOf, e, ints_iv, sumI_iv, lift_some]
    rfl
  · intro p hp'
    simp only [tgV, wipeE, putE, List.set_cons_zero, List.set_cons_succ, List.getElem?_cons_zero, List.getElem?_cons_succ, bnd_ok', iv, binV, shl1 (hp p hp'), lift_some]
theorem r11 (bs : List Nat) (hb : ∀ b ∈ bs, b ≠ 0) (w : Nat) : run GG FF (n + 2) 11 [.tup (bs.map iv), iv w] h = .ok (iv (rem bs w)) h := by
  refine run_ret (d := f11) rfl rfl ?_
  show evS GG (run GG FF (n + 1)) f11.body [some (.tup (bs.map iv)), some (iv w), none] h = _
  simp only [f11, evS, evE, evA, evF, evW, evC, List.getElem?_cons_zero, List.getElem?_cons_succ, bnd_ok', lift_some, walkF]
  rw [forL_f (fun s : Nat × Option Vl => [some (.tup (bs.map iv)), some (iv s.1), s.2]) (fun s b => (if s.1.testBit b.log2 then s.1 ^^^ b else s.1, some (iv b))) (w, none) rfl ?_]
  · have f : ∀ (l : List Nat) (s : Nat × Option Vl), (l.foldl (fun s b => (if s.1.testBit b.log2 then s.1 ^^^ b else s.1, some (iv b))) s).1 = rem l s.1 := by
      intro l
      induction l with
      | nil => intro s; rfl
      | cons b l ih => intro s; exact ih _
    simp only [bndS_nx, List.getElem?_cons_zero, List.getElem?_cons_succ, bnd_ok', f]
  · intro b hb' s
    simp only [tgV, putE, List.set_cons_zero, List.set_cons_succ, List.getElem?_cons_zero, List.getElem?_cons_succ, bnd_ok', r7 b (hb b hb'), r8]
    cases hs : s.1.testBit b.log2 with
    | true => simp only [truth, iv, augV, xorN, if_true]
    | false => simp only [truth, Bool.false_eq_true, if_false]
theorem sortI_iv : ∀ l : List Nat, sortI (l.map (fun w : Nat => (w : Int))) = (sortN l).map (fun w : Nat => (w : Int))
  | [] => rfl
  | x :: r => by
    have ins : ∀ (x : Nat) (l : List Nat), insI (x : Int) (l.map (fun w : Nat => (w : Int))) = (insN x l).map (fun w : Nat => (w : Int)) := by
      intro x l
      induction l with
      | nil => rfl
      | cons y l ih =>
        rw [List.map_cons]
        unfold insI insN
        by_cases hxy : x ≤ y
        · rw [if_pos hxy, if_pos (by omega)]
          rfl
        · rw [if_neg hxy, if_neg (by omega), ih]
          rfl
    show insI (x : Int) (sortI (r.map (fun w : Nat => (w : Int)))) = _
    rw [sortI_iv r, ins]
    rfl
theorem srt_desc (l : List Nat) : ((sortI (l.map (fun w : Nat => (w : Int)))).reverse.map Vl.int) = (desc l).map iv := by
  rw [sortI_iv]
  unfold desc
  rw [List.map_reverse, List.map_reverse, List.map_map]
  rfl
theorem srt_asc (l : List Nat) : ((sortI (l.map (fun w : Nat => (w : Int)))).map Vl.int) = (sortN l).map iv := by
  rw [sortI_iv, List.map_map]
  rfl
theorem r12 (bs : List Nat) (hb : ∀ b ∈ bs, b ≠ 0) (hl : bs.length + 1 ≤ line) (w : Nat) : run GG FF (n + 3) 12 [.tup (bs.map iv), iv w] h = .ok (.tup ((withW bs w).map iv)) h := by
  refine run_ret (d := f12) rfl rfl ?_
  show evS GG (run GG FF (n + 2)) f12.body [some (.tup (bs.map iv)), some (iv w), none, none, none] h = _
  simp only [f12, evS, evE, evA, evF, evW, part1, part0, evC, List.getElem?_cons_zero, List.getElem?_cons_succ, putE, List.set_cons_zero, List.set_cons_succ, tgV, putEs, wipeE, walkC, walkF, bnd_ok', lift_some, bndS_nx, bndS_rt, iv_xor, iv_and, iv_add, iv_axor, iv_aadd, iv_eq, iv_ne, iv_lt, iv_gt, iv_le, tru_bl, int0, int1, int2, r11 bs hb]
  unfold withW
  by_cases hz : rem bs w = 0
  · rw [if_pos hz, decide_eq_true hz]
    simp only [evS, evE, evA, evF, evW, part1, part0, evC, List.getElem?_cons_zero, List.getElem?_cons_succ, putE, List.set_cons_zero, List.set_cons_succ, tgV, putEs, wipeE, walkC, walkF, bnd_ok', lift_some, bndS_nx, bndS_rt, iv_xor, iv_and, iv_add, iv_axor, iv_aadd, iv_eq, iv_ne, iv_lt, iv_gt, iv_le, tru_bl, int0, int1, int2]
  · rw [if_neg hz, decide_eq_false hz]
    simp only [evS, evE, evA, evF, evW, part1, part0, evC, List.getElem?_cons_zero, List.getElem?_cons_succ, putE, List.set_cons_zero, List.set_cons_succ, tgV, putEs, wipeE, walkC, walkF, bnd_ok', lift_some, bndS_nx, bndS_rt, iv_xor, iv_and, iv_add, iv_axor, iv_aadd, iv_eq, iv_ne, iv_lt, iv_gt, iv_le, tru_bl, int0, int1, int2, r7 (rem bs w) hz]
    rw [compL_map (k := fun b => iv (clr (rem bs w) b)) (by have := line_big; simp; omega) ?_]
    · have e2 : bs.map (fun b => iv (clr (rem bs w) b)) = (bs.map (clr (rem bs w))).map iv := by rw [List.map_map]; rfl
      have e3 : (bs.map (clr (rem bs w))).map iv ++ [iv (rem bs w)] = (more bs (rem bs w)).map iv := by
        unfold more
        rw [List.map_append]
        rfl
      have hlen : ((bs.map (clr (rem bs w))).map iv).length + [iv (rem bs w)].length ≤ line := by
        have := line_big
        simp
        omega
      have h1 : decide ([iv (rem bs w)].length ≤ line) = true := decide_eq_true (by show 1 ≤ line; decide)
      simp only [evS, evE, evA, evF, evW, part1, part0, evC, List.getElem?_cons_zero, List.getElem?_cons_succ, putE, List.set_cons_zero, List.set_cons_succ, tgV, putEs, wipeE, walkC, walkF, bnd_ok', lift_some, bndS_nx, bndS_rt, iv_xor, iv_and, iv_add, iv_axor, iv_aadd, iv_eq, iv_ne, iv_lt, iv_gt, iv_le, tru_bl, int0, int1, int2, List.nil_append, e2, h1, catV, lstOf, if_pos hlen, e3, ints_iv, srt_desc, bifV, arg1, tupleV, seqOf]
    · intro b hb'
      simp only [evS, evE, evA, evF, evW, part1, part0, evC, List.getElem?_cons_zero, List.getElem?_cons_succ, putE, List.set_cons_zero, List.set_cons_succ, tgV, putEs, wipeE, walkC, walkF, bnd_ok', lift_some, bndS_nx, bndS_rt, iv_xor, iv_and, iv_add, iv_axor, iv_aadd, iv_eq, iv_ne, iv_lt, iv_gt, iv_le, tru_bl, int0, int1, int2, r8]
      unfold clr
      cases hs : b.testBit (rem bs w).log2 with
      | true => simp only [evS, evE, evA, evF, evW, part1, part0, evC, List.getElem?_cons_zero, List.getElem?_cons_succ, putE, List.set_cons_zero, List.set_cons_succ, tgV, putEs, wipeE, walkC, walkF, bnd_ok', lift_some, bndS_nx, bndS_rt, iv_xor, iv_and, iv_add, iv_axor, iv_aadd, iv_eq, iv_ne, iv_lt, iv_gt, iv_le, tru_bl, int0, int1, int2, if_true]
      | false => simp only [evS, evE, evA, evF, evW, part1, part0, evC, List.getElem?_cons_zero, List.getElem?_cons_succ, putE, List.set_cons_zero, List.set_cons_succ, tgV, putEs, wipeE, walkC, walkF, bnd_ok', lift_some, bndS_nx, bndS_rt, iv_xor, iv_and, iv_add, iv_axor, iv_aadd, iv_eq, iv_ne, iv_lt, iv_gt, iv_le, tru_bl, int0, int1, int2, Bool.false_eq_true, if_false]
theorem line_pow : line = 2 ^ 24 := by decide
theorem r13 (ws : List Nat) (hw : ∀ w ∈ ws, w < 2 ^ 24) : run GG FF (n + 4) 13 [.tup (ws.map iv)] h = .ok (.tup ((basis ws).map iv)) h := by
  refine run_ret (d := f13) rfl rfl ?_
  show evS GG (run GG FF (n + 3)) f13.body [some (.tup (ws.map iv)), none, none] h = _
  have h0 : decide (([] : List Vl).length ≤ line) = true := by decide
  simp only [f13, evS, evE, evA, evF, evW, part1, part0, evC, List.getElem?_cons_zero, List.getElem?_cons_succ, putE, List.set_cons_zero, List.set_cons_succ, tgV, putEs, wipeE, walkC, walkF, bnd_ok', lift_some, bndS_nx, bndS_rt, iv_xor, iv_and, iv_add, iv_axor, iv_aadd, iv_eq, iv_ne, iv_lt, iv_gt, iv_le, tru_bl, int0, int1, int2, h0]
  rw [forL_i (fun s : List Nat × Option Vl => [some (.tup (ws.map iv)), some (.tup (s.1.map iv)), s.2]) (fun s w => (withW s.1 w, some (iv w))) (fun s => BasN 24 s.1) ([], none) ?he (basN_nil 24) ?k]
  case he => rfl
  · have f : ∀ (l : List Nat) (s : List Nat × Option Vl), (l.foldl (fun s w => (withW s.1 w, some (iv w))) s).1 = basisF s.1 l := by
      intro l
      induction l with
      | nil => intro s; rfl
      | cons b l ih => intro s; exact ih _
    simp only [evS, evE, evA, evF, evW, part1, part0, evC, List.getElem?_cons_zero, List.getElem?_cons_succ, putE, List.set_cons_zero, List.set_cons_succ, tgV, putEs, wipeE, walkC, walkF, bnd_ok', lift_some, bndS_nx, bndS_rt, iv_xor, iv_and, iv_add, iv_axor, iv_aadd, iv_eq, iv_ne, iv_lt, iv_gt, iv_le, tru_bl, int0, int1, int2, f]
    rfl
  case k =>
    intro w hw' s B
    have hlen : s.1.length + 1 ≤ line := by rw [line_pow]; exact B.len
    refine ⟨?_, B.more (hw w hw')⟩
    simp only [evS, evE, evA, evF, evW, part1, part0, evC, List.getElem?_cons_zero, List.getElem?_cons_succ, putE, List.set_cons_zero, List.set_cons_succ, tgV, putEs, wipeE, walkC, walkF, bnd_ok', lift_some, bndS_nx, bndS_rt, iv_xor, iv_and, iv_add, iv_axor, iv_aadd, iv_eq, iv_ne, iv_lt, iv_gt, iv_le, tru_bl, int0, int1, int2, r12 s.1 (fun b hb => B.bas.red.pos b hb) hlen]
theorem r14 (bs : List Nat) (hb : ∀ b ∈ bs, b ≠ 0) (hl : bs.length ≤ line) : run GG FF (n + 2) 14 [.tup (bs.map iv)] h = .ok (.lst ((bs.map Nat.log2).map iv)) h := by
  refine run_ret (d := f14) rfl rfl ?_
  show evS GG (run GG FF (n + 1)) f14.body [some (.tup (bs.map iv)), none] h = _
  simp only [f14, evS, evE, evA, evF, evW, part1, part0, evC, List.getElem?_cons_zero, List.getElem?_cons_succ, putE, List.set_cons_zero, List.set_cons_succ, tgV, putEs, wipeE, walkC, walkF, bnd_ok', lift_some, bndS_nx, bndS_rt, iv_xor, iv_and, iv_add, iv_axor, iv_aadd, iv_eq, iv_ne, iv_lt, iv_gt, iv_le, tru_bl, int0, int1, int2]
  rw [compL_map (k := fun b => iv b.log2) (by simpa using hl) ?_]
  · simp only [evS, evE, evA, evF, evW, part1, part0, evC, List.getElem?_cons_zero, List.getElem?_cons_succ, putE, List.set_cons_zero, List.set_cons_succ, tgV, putEs, wipeE, walkC, walkF, bnd_ok', lift_some, bndS_nx, bndS_rt, iv_xor, iv_and, iv_add, iv_axor, iv_aadd, iv_eq, iv_ne, iv_lt, iv_gt, iv_le, tru_bl, int0, int1, int2, List.nil_append, List.map_map]
    rfl
  · intro b hb'
    simp only [evS, evE, evA, evF, evW, part1, part0, evC, List.getElem?_cons_zero, List.getElem?_cons_succ, putE, List.set_cons_zero, List.set_cons_succ, tgV, putEs, wipeE, walkC, walkF, bnd_ok', lift_some, bndS_nx, bndS_rt, iv_xor, iv_and, iv_add, iv_axor, iv_aadd, iv_eq, iv_ne, iv_lt, iv_gt, iv_le, tru_bl, int0, int1, int2, r7 b (hb b hb')]
theorem inB_iv (p : Nat) : ∀ ps : List Nat, inB (iv p) (ps.map iv) = ps.contains p
  | [] => rfl
  | q :: ps => by
    rw [List.map_cons]
    show (match eqV (iv q) (iv p) with | true => true | false => inB (iv p) (ps.map iv)) = _
    have e : eqV (iv q) (iv p) = (p == q) := by
      show ((q : Int) == (p : Int)) = _
      by_cases z : p = q
      · subst z; simp
      · rw [show (p == q) = false from beq_eq_false_iff_ne.mpr z, beq_eq_false_iff_ne]; omega
    rw [e, List.contains_cons]
    cases p == q with
    | true => rfl
    | false => exact inB_iv p ps
theorem flat_iv (ps : List Nat) : (ps.map iv).all flat = true := by
  rw [List.all_eq_true]
  intro x hx
  obtain ⟨q, _, rfl⟩ := List.mem_map.mp hx
  rfl
theorem in_iv (p : Nat) (ps : List Nat) : isIn h (iv p) (.lst (ps.map iv)) = some (ps.contains p) := by
  show (if (flat (iv p) && (ps.map iv).all flat) = true then some (inB (iv p) (ps.map iv)) else none) = _
  rw [flat_iv, inB_iv]
  rfl
theorem r15 (l : Nat) (hl : l ≤ 1000) (bs : List Nat) (hb : ∀ b ∈ bs, b ≠ 0) (hz : bs.length ≤ line) : run GG FF (n + 3) 15 [iv l, .tup (bs.map iv)] h = .ok (.lst (((List.range l).filter fun p => !(bs.map Nat.log2).contains p).map iv)) h := by
  refine run_ret (d := f15) rfl rfl ?_
  show evS GG (run GG FF (n + 2)) f15.body [some (iv l), some (.tup (bs.map iv)), none, none] h = _
  simp only [f15, evS, evE, evA, evF, evW, part1, part0, evC, List.getElem?_cons_zero, List.getElem?_cons_succ, putE, List.set_cons_zero, List.set_cons_succ, tgV, putEs, wipeE, walkC, walkF, bnd_ok', lift_some, bndS_nx, bndS_rt, iv_xor, iv_and, iv_add, iv_axor, iv_aadd, iv_eq, iv_ne, iv_lt, iv_gt, iv_le, tru_bl, int0, int1, int2, r14 bs hb hz]
  have e : rangeL ((l : Int)).toNat 0 1 = (List.range l).map iv := by rw [Int.toNat_natCast, range_iv0]
  have hd : decide (((l : Nat) : Int).natAbs < 1000000000) = true := decide_eq_true (by omega)
  rw [show iv l = Vl.int (l : Nat) from rfl]
  simp only [hd, e, evS, evE, evA, evF, evW, part1, part0, evC, List.getElem?_cons_zero, List.getElem?_cons_succ, putE, List.set_cons_zero, List.set_cons_succ, tgV, putEs, wipeE, walkC, walkF, bnd_ok', lift_some, bndS_nx, bndS_rt, iv_xor, iv_and, iv_add, iv_axor, iv_aadd, iv_eq, iv_ne, iv_lt, iv_gt, iv_le, tru_bl, int0, int1, int2]
  rw [compL_filter (p := fun p => !(bs.map Nat.log2).contains p) (k := iv) (by have := line_big; simp; omega) ?_]
  · simp only [evS, evE, evA, evF, evW, part1, part0, evC, List.getElem?_cons_zero, List.getElem?_cons_succ, putE, List.set_cons_zero, List.set_cons_succ, tgV, putEs, wipeE, walkC, walkF, bnd_ok', lift_some, bndS_nx, bndS_rt, iv_xor, iv_and, iv_add, iv_axor, iv_aadd, iv_eq, iv_ne, iv_lt, iv_gt, iv_le, tru_bl, int0, int1, int2, List.nil_append]
  · intro p hp
    simp only [evS, evE, evA, evF, evW, part1, part0, evC, List.getElem?_cons_zero, List.getElem?_cons_succ, putE, List.set_cons_zero, List.set_cons_succ, tgV, putEs, wipeE, walkC, walkF, bnd_ok', lift_some, bndS_nx, bndS_rt, iv_xor, iv_and, iv_add, iv_axor, iv_aadd, iv_eq, iv_ne, iv_lt, iv_gt, iv_le, tru_bl, int0, int1, int2, cmpV, in_iv]
    cases (bs.map Nat.log2).contains p with
    | true => simp only [evS, evE, evA, evF, evW, part1, part0, evC, List.getElem?_cons_zero, List.getElem?_cons_succ, putE, List.set_cons_zero, List.set_cons_succ, tgV, putEs, wipeE, walkC, walkF, bnd_ok', lift_some, bndS_nx, bndS_rt, iv_xor, iv_and, iv_add, iv_axor, iv_aadd, iv_eq, iv_ne, iv_lt, iv_gt, iv_le, tru_bl, int0, int1, int2, Bool.not_true, Bool.false_eq_true, if_false]
    | false => simp only [evS, evE, evA, evF, evW, part1, part0, evC, List.getElem?_cons_zero, List.getElem?_cons_succ, putE, List.set_cons_zero, List.set_cons_succ, tgV, putEs, wipeE, walkC, walkF, bnd_ok', lift_some, bndS_nx, bndS_rt, iv_xor, iv_and, iv_add, iv_axor, iv_aadd, iv_eq, iv_ne, iv_lt, iv_gt, iv_le, tru_bl, int0, int1, int2, Bool.not_false, if_true]
end
end Law
set_option Elab.async false
set_option linter.all false
set_option maxRecDepth 100000
set_option maxHeartbeats 1000000
namespace Law
open Mi Gf
section
variable {n : Nat} {h : Hh}
theorem g0 : GG.gv 0 = some (iv 24) := rfl
theorem g1 : GG.gv 1 = some (iv 64) := rfl
theorem g2 : GG.gv 2 = some (iv 12) := rfl
theorem g3 : GG.gv 3 = some (iv 2) := rfl
theorem r1w (i a b : Nat) : run GG FF (n + 2) 1 [iv i, iv a, iv b] h = .ok (.bl (decide (a ≤ i ∧ i ≤ b))) h := by
  unfold iv
  rw [r1]
  congr 2
  rw [decide_eq_decide]
  omega
theorem r17 (l : Nat) (h1 : 1 ≤ l) (h2 : l ≤ 24) : run GG FF (n + 3) 17 [iv l] h = .ok .non h := by
  refine run_nx (d := f17) (env := [some (iv l)]) rfl rfl ?_
  show evS GG (run GG FF (n + 2)) f17.body [some (iv l)] h = _
  simp only [f17, evS, evE, evA, evF, evW, part1, part0, evC, List.getElem?_cons_zero, List.getElem?_cons_succ, putE, List.set_cons_zero, List.set_cons_succ, tgV, putEs, wipeE, walkC, walkF, bnd_ok', lift_some, bndS_nx, bndS_rt, iv_xor, iv_and, iv_add, iv_axor, iv_aadd, iv_eq, iv_ne, iv_lt, iv_gt, iv_le, tru_bl, int0, int1, int2, g0, r1w, decide_eq_true (show 1 ≤ l ∧ l ≤ 24 from ⟨h1, h2⟩), Bool.not_true]
theorem r18 (l : Nat) (hl : l ≤ 1000) (w : Nat) (hw : w < 2 ^ l) : run GG FF (n + 3) 18 [iv l, iv w] h = .ok .non h := by
  refine run_nx (d := f18) (env := [some (iv l), some (iv w)]) rfl rfl ?_
  show evS GG (run GG FF (n + 2)) f18.body [some (iv l), some (iv w)] h = _
  have := r2w (n := n) (h := h) l hl w hw
  rw [show Vl.int (l : Nat) = iv l from rfl] at this
  simp only [f18, evS, evE, evA, evF, evW, part1, part0, evC, List.getElem?_cons_zero, List.getElem?_cons_succ, putE, List.set_cons_zero, List.set_cons_succ, tgV, putEs, wipeE, walkC, walkF, bnd_ok', lift_some, bndS_nx, bndS_rt, iv_xor, iv_and, iv_add, iv_axor, iv_aadd, iv_eq, iv_ne, iv_lt, iv_gt, iv_le, tru_bl, int0, int1, int2, this, Bool.not_true]
theorem r19 (l : Nat) (hl : l ≤ 1000) (ws : List Nat) (hw : ∀ w ∈ ws, w < 2 ^ l) (hz : ws.length ≤ 64) : run GG FF (n + 4) 19 [iv l, .tup (ws.map iv)] h = .ok .non h := by
  refine run_nx (d := f19) (env := [some (iv l), some (.tup (ws.map iv))]) rfl rfl ?_
  show evS GG (run GG FF (n + 3)) f19.body [some (iv l), some (.tup (ws.map iv))] h = _
  have := r3 (n := n) (h := h) l hl ws hw hz
  rw [show Vl.int (l : Nat) = iv l from rfl] at this
  simp only [f19, evS, evE, evA, evF, evW, part1, part0, evC, List.getElem?_cons_zero, List.getElem?_cons_succ, putE, List.set_cons_zero, List.set_cons_succ, tgV, putEs, wipeE, walkC, walkF, bnd_ok', lift_some, bndS_nx, bndS_rt, iv_xor, iv_and, iv_add, iv_axor, iv_aadd, iv_eq, iv_ne, iv_lt, iv_gt, iv_le, tru_bl, int0, int1, int2, this, Bool.not_true]
structure Told (l : Nat) (ws : List Nat) : Prop where
  one : 1 ≤ l
  most : l ≤ 24
  lt : ∀ w ∈ ws, w < 2 ^ l
  len : ws.length ≤ 64
theorem Told.lt24 {l : Nat} {ws : List Nat} (T : Told l ws) : ∀ w ∈ ws, w < 2 ^ 24 := fun w hw => Nat.lt_of_lt_of_le (T.lt w hw) (Nat.pow_le_pow_right (by decide) T.most)
theorem Told.basN {l : Nat} {ws : List Nat} (T : Told l ws) : BasN l (basis ws) := Gf.basN l T.lt
theorem BasN.le24 {l : Nat} {bs : List Nat} (B : BasN l bs) (hl : l ≤ 24) : bs.length + 1 ≤ line := by
  rw [line_pow]
  exact Nat.le_trans B.len (Nat.pow_le_pow_right (by decide) hl)
theorem r20 {l : Nat} {ws : List Nat} (T : Told l ws) : run GG FF (n + 5) 20 [iv l, .tup (ws.map iv)] h = .ok .non h := by
  refine run_nx (d := f20) (env := [some (iv l), some (.tup (ws.map iv))]) rfl rfl ?_
  show evS GG (run GG FF (n + 4)) f20.body [some (iv l), some (.tup (ws.map iv))] h = _
  simp only [f20, evS, evE, evA, evF, evW, part1, part0, evC, List.getElem?_cons_zero, List.getElem?_cons_succ, putE, List.set_cons_zero, List.set_cons_succ, tgV, putEs, wipeE, walkC, walkF, bnd_ok', lift_some, bndS_nx, bndS_rt, iv_xor, iv_and, iv_add, iv_axor, iv_aadd, iv_eq, iv_ne, iv_lt, iv_gt, iv_le, tru_bl, int0, int1, int2, r17 l T.one T.most, r19 l (Nat.le_trans T.most (by decide)) ws T.lt T.len]
theorem r21 {l : Nat} {ws : List Nat} (T : Told l ws) {w : Nat} (hw : w < 2 ^ l) : run GG FF (n + 6) 21 [iv l, .tup (ws.map iv), iv w] h = .ok .non h := by
  refine run_nx (d := f21) (env := [some (iv l), some (.tup (ws.map iv)), some (iv w)]) rfl rfl ?_
  show evS GG (run GG FF (n + 5)) f21.body [some (iv l), some (.tup (ws.map iv)), some (iv w)] h = _
  simp only [f21, evS, evE, evA, evF, evW, part1, part0, evC, List.getElem?_cons_zero, List.getElem?_cons_succ, putE, List.set_cons_zero, List.set_cons_succ, tgV, putEs, wipeE, walkC, walkF, bnd_ok', lift_some, bndS_nx, bndS_rt, iv_xor, iv_and, iv_add, iv_axor, iv_aadd, iv_eq, iv_ne, iv_lt, iv_gt, iv_le, tru_bl, int0, int1, int2, r20 T, r18 l (Nat.le_trans T.most (by decide)) w hw]
theorem r23 (w : Nat) (hw : w < 2 ^ 24) : run GG FF (n + 4) 23 [iv w] h = .ok (iv (wt w)) h := by
  refine run_ret (d := f23) rfl rfl ?_
  show evS GG (run GG FF (n + 3)) f23.body [some (iv w)] h = _
  simp only [f23, evS, evE, evA, evF, evW, part1, part0, evC, List.getElem?_cons_zero, List.getElem?_cons_succ, putE, List.set_cons_zero, List.set_cons_succ, tgV, putEs, wipeE, walkC, walkF, bnd_ok', lift_some, bndS_nx, bndS_rt, iv_xor, iv_and, iv_add, iv_axor, iv_aadd, iv_eq, iv_ne, iv_lt, iv_gt, iv_le, tru_bl, int0, int1, int2, g0, r18 24 (by decide) w hw, r5]
theorem r24 (a b : Nat) (ha : a < 2 ^ 24) (hb : b < 2 ^ 24) : run GG FF (n + 4) 24 [iv a, iv b] h = .ok (iv (wt (a &&& b) % 2)) h := by
  refine run_ret (d := f24) rfl rfl ?_
  show evS GG (run GG FF (n + 3)) f24.body [some (iv a), some (iv b)] h = _
  simp only [f24, evS, evE, evA, evF, evW, part1, part0, evC, List.getElem?_cons_zero, List.getElem?_cons_succ, putE, List.set_cons_zero, List.set_cons_succ, tgV, putEs, wipeE, walkC, walkF, bnd_ok', lift_some, bndS_nx, bndS_rt, iv_xor, iv_and, iv_add, iv_axor, iv_aadd, iv_eq, iv_ne, iv_lt, iv_gt, iv_le, tru_bl, int0, int1, int2, g0, r18 24 (by decide) a ha, r18 24 (by decide) b hb, r6]
theorem bits_le {w k : Nat} (hw : w < 2 ^ k) : bits w ≤ k := by
  unfold bits
  split
  · omega
  · rename_i hz
    exact (Nat.log2_lt hz).mpr hw
theorem r25 (w : Nat) (hw : w < 2 ^ 24) : run GG FF (n + 4) 25 [iv w] h = .ok (.tup ((plcs w).map iv)) h := by
  refine run_ret (d := f25) rfl rfl ?_
  show evS GG (run GG FF (n + 3)) f25.body [some (iv w)] h = _
  simp only [f25, evS, evE, evA, evF, evW, part1, part0, evC, List.getElem?_cons_zero, List.getElem?_cons_succ, putE, List.set_cons_zero, List.set_cons_succ, tgV, putEs, wipeE, walkC, walkF, bnd_ok', lift_some, bndS_nx, bndS_rt, iv_xor, iv_and, iv_add, iv_axor, iv_aadd, iv_eq, iv_ne, iv_lt, iv_gt, iv_le, tru_bl, int0, int1, int2, g0, r18 24 (by decide) w hw, r9 w (Nat.le_trans (bits_le hw) (by decide)), bifV, arg1, tupleV, seqOf]
theorem r27 {l : Nat} {ws : List Nat} (T : Told l ws) : run GG FF (n + 6) 27 [iv l, .tup (ws.map iv)] h = .ok (.tup ((basis ws).map iv)) h := by
  refine run_ret (d := f27) rfl rfl ?_
  show evS GG (run GG FF (n + 5)) f27.body [some (iv l), some (.tup (ws.map iv))] h = _
  simp only [f27, evS, evE, evA, evF, evW, part1, part0, evC, List.getElem?_cons_zero, List.getElem?_cons_succ, putE, List.set_cons_zero, List.set_cons_succ, tgV, putEs, wipeE, walkC, walkF, bnd_ok', lift_some, bndS_nx, bndS_rt, iv_xor, iv_and, iv_add, iv_axor, iv_aadd, iv_eq, iv_ne, iv_lt, iv_gt, iv_le, tru_bl, int0, int1, int2, r20 T, r13 ws T.lt24]
theorem r28 {l : Nat} {ws : List Nat} (T : Told l ws) : run GG FF (n + 6) 28 [iv l, .tup (ws.map iv)] h = .ok (.tup (((List.range l).filter fun p => !((basis ws).map Nat.log2).contains p).map iv)) h := by
  refine run_ret (d := f28) rfl rfl ?_
  show evS GG (run GG FF (n + 5)) f28.body [some (iv l), some (.tup (ws.map iv))] h = _
  have B := T.basN
  have hl := BasN.le24 B T.most
  simp only [f28, evS, evE, evA, evF, evW, part1, part0, evC, List.getElem?_cons_zero, List.getElem?_cons_succ, putE, List.set_cons_zero, List.set_cons_succ, tgV, putEs, wipeE, walkC, walkF, bnd_ok', lift_some, bndS_nx, bndS_rt, iv_xor, iv_and, iv_add, iv_axor, iv_aadd, iv_eq, iv_ne, iv_lt, iv_gt, iv_le, tru_bl, int0, int1, int2, r20 T, r13 ws T.lt24, r15 l (Nat.le_trans T.most (by decide)) (basis ws) (fun b hb => B.bas.red.pos b hb) (by omega), bifV, arg1, tupleV, seqOf]
theorem r29 {l : Nat} {ws : List Nat} (T : Told l ws) {w : Nat} (hw : w < 2 ^ l) : run GG FF (n + 7) 29 [iv l, .tup (ws.map iv), iv w] h = .ok (iv (rem (basis ws) w)) h := by
  refine run_ret (d := f29) rfl rfl ?_
  show evS GG (run GG FF (n + 6)) f29.body [some (iv l), some (.tup (ws.map iv)), some (iv w)] h = _
  have B := T.basN
  simp only [f29, evS, evE, evA, evF, evW, part1, part0, evC, List.getElem?_cons_zero, List.getElem?_cons_succ, putE, List.set_cons_zero, List.set_cons_succ, tgV, putEs, wipeE, walkC, walkF, bnd_ok', lift_some, bndS_nx, bndS_rt, iv_xor, iv_and, iv_add, iv_axor, iv_aadd, iv_eq, iv_ne, iv_lt, iv_gt, iv_le, tru_bl, int0, int1, int2, r21 T hw, r13 ws T.lt24, r11 (basis ws) (fun b hb => B.bas.red.pos b hb)]
end
end Law
set_option Elab.async false
set_option linter.all false
set_option maxRecDepth 100000
set_option maxHeartbeats 1000000
namespace Law
open Mi Gf
theorem get_last (h : Hh) (o : Ob) : (h ++ [o])[h.length]? = some o := by
  rw [List.getElem?_append_right (Nat.le_refl _), Nat.sub_self]
  rfl
theorem set_last (h : Hh) (o o' : Ob) : (h ++ [o]).set h.length o' = h ++ [o'] := by
  rw [List.set_append_right _ _ (Nat.le_refl _), Nat.sub_self]
  rfl
theorem mapO_iv (h : Hh) (n0 k : Nat) : ∀ ws : List Nat, mapO (frV h n0 (k + 1)) (ws.map iv) = some (ws.map iv)
  | [] => rfl
  | w :: ws => by
    have := mapO_iv h n0 k ws
    show (match frV h n0 (k + 1) (iv w) with
      | some y => match mapO (frV h n0 (k + 1)) (ws.map iv) with
        | some l => some (y :: l)
        | none => none
      | none => none) = _
    rw [this]
    rfl
theorem wfL_iv (n0 : Nat) : ∀ ws : List Nat, wfL n0 (ws.map iv) = true
  | [] => by simp [wfL]
  | w :: ws => by
    rw [List.map_cons]
    unfold wfL
    rw [show wfV n0 (iv w) = true from by unfold iv; simp [wfV], wfL_iv n0 ws]
theorem take_app (h : Hh) (o : Ob) : (h ++ [o]).take h.length = h := by
  rw [List.take_left']
  rfl
theorem end_frz {h : Hh} (ws : List Nat) (hw : wfH h.length h = true) : endF true h.length (.ok (.rt (.ref h.length)) (h ++ [.lst (ws.map iv)])) = .ok (.lst (ws.map iv)) h := by
  have hd : decide ((h ++ [Ob.lst (ws.map iv)]).length ≤ h.length) = false := by
    rw [decide_eq_false]
    rw [List.length_append, List.length_singleton]
    omega
  have hf : frV (h ++ [.lst (ws.map iv)]) h.length 30 (.ref h.length) = some (.lst (ws.map iv)) := by
    show (if h.length < h.length then some (Vl.ref h.length) else match (h ++ [Ob.lst (ws.map iv)])[h.length]? with
      | some (.lst xs) => match mapO (frV (h ++ [.lst (ws.map iv)]) h.length 29) xs with
        | some l => some (.lst l)
        | none => none
      | _ => none) = _
    rw [if_neg (Nat.lt_irrefl _), get_last]
    dsimp only
    rw [mapO_iv _ _ 28]
  unfold endF fin
  dsimp only
  rw [hd]
  dsimp only
  rw [hf]
  dsimp only
  rw [show wfV h.length (.lst (ws.map iv)) = true from by simp only [wfV, wfL_iv], take_app, hw]
section
variable {n : Nat} {h : Hh}
theorem cut_tail (ps : List Nat) : cut (ps.map iv) (some 1) none = ps.tail.map iv := by
  unfold cut
  show ((ps.map iv).drop (min 1 (ps.map iv).length)).take ((ps.map iv).length - min 1 (ps.map iv).length) = _
  cases ps with
  | nil => rfl
  | cons p ps =>
    have : min 1 ((p :: ps).map iv).length = 1 := by simp
    rw [this]
    simp
    exact List.take_of_length_le (by simp)
theorem zip_iv : ∀ as bs : List Nat, List.zipWith (fun u v => Vl.tup [u, v]) (as.map iv) (bs.map iv) = (as.zip bs).map fun q => .tup [iv q.1, iv q.2]
  | [], _ => rfl
  | _ :: _, [] => rfl
  | a :: as, b :: bs => by
    rw [List.map_cons, List.map_cons, List.zipWith_cons_cons, zip_iv as bs]
    rfl
theorem bls_true' {α : Type} (p : List α) : blsOf (p.map fun _ => Vl.bl true) = some (p.map fun _ => true) := by
  induction p with
  | nil => rfl
  | cons x p ih =>
    show (match blsOf (p.map fun _ => Vl.bl true) with | some l => some (true :: l) | none => none) = _
    rw [ih]
    rfl
theorem asc_zip : ∀ {ps : List Nat}, ps.Pairwise (· < ·) → ∀ q ∈ ps.zip ps.tail, q.1 < q.2
  | [], _, _, h => by cases h
  | [_], _, _, h => by cases h
  | a :: b :: ps, p, q, h => by
    rcases List.mem_cons.mp h with rfl | h
    · exact (List.pairwise_cons.mp p).1 b List.mem_cons_self
    · exact asc_zip (List.pairwise_cons.mp p).2 q h
theorem r4 (ps : List Nat) (m : Nat) (hm : ∀ p ∈ ps, p ≤ m) (ha : ps.Pairwise (· < ·)) (hl : ps.length ≤ 1000) : run GG FF (n + 3) 4 [.tup (ps.map iv), iv m] h = .ok (.bl true) h := by
  refine run_ret (d := f4) rfl rfl ?_
  show evS GG (run GG FF (n + 2)) f4.body [some (.tup (ps.map iv)), some (iv m), none, none] h = _
  have t1 : bifV .istuple h [.tup (ps.map iv)] = some (.bl true) := rfl
  simp only [f4, evS, evE, evA, evF, evW, part1, part0, evC, List.getElem?_cons_zero, List.getElem?_cons_succ, putE, List.set_cons_zero, List.set_cons_succ, tgV, putEs, wipeE, walkC, walkF, bnd_ok', lift_some, bndS_nx, bndS_rt, iv_xor, iv_and, iv_add, iv_axor, iv_aadd, iv_eq, iv_ne, iv_lt, iv_gt, iv_le, tru_bl, int0, int1, int2, t1, Bool.not_true]
  rw [compL_map (k := fun _ => .bl true) (by have := line_big; simp; omega) ?k1]
  case k1 =>
    intro p hp
    simp only [evS, evE, evA, evF, evW, part1, part0, evC, List.getElem?_cons_zero, List.getElem?_cons_succ, putE, List.set_cons_zero, List.set_cons_succ, tgV, putEs, wipeE, walkC, walkF, bnd_ok', lift_some, bndS_nx, bndS_rt, iv_xor, iv_and, iv_add, iv_axor, iv_aadd, iv_eq, iv_ne, iv_lt, iv_gt, iv_le, tru_bl, int0, int1, int2, r1w, decide_eq_true (show 0 ≤ p ∧ p ≤ m from ⟨Nat.zero_le _, hm p hp⟩)]
  have t2 : ∀ l : List Nat, bifV .all h [.lst (l.map fun _ => .bl true)] = some (.bl true) := fun l => by
    show ofBls h (fun l => l.all id) (.lst (l.map fun _ => Vl.bl true)) = _
    simp only [ofBls, lstOf, bls_true, List.all_map]
    simp
  simp only [evS, evE, evA, evF, evW, part1, part0, evC, List.getElem?_cons_zero, List.getElem?_cons_succ, putE, List.set_cons_zero, List.set_cons_succ, tgV, putEs, wipeE, walkC, walkF, bnd_ok', lift_some, bndS_nx, bndS_rt, iv_xor, iv_and, iv_add, iv_axor, iv_aadd, iv_eq, iv_ne, iv_lt, iv_gt, iv_le, tru_bl, int0, int1, int2, List.nil_append, t2, Bool.not_true, frq, cutW, cut_tail, zip_iv, beq_self_eq_true]
  rw [compL_map (k := fun _ => .bl true) (by have := line_big; simp; omega) ?k2]
  case k2 =>
    intro q hq
    have hlt := asc_zip ha q hq
    simp only [evS, evE, evA, evF, evW, part1, part0, evC, List.getElem?_cons_zero, List.getElem?_cons_succ, putE, List.set_cons_zero, List.set_cons_succ, tgV, putEs, wipeE, walkC, walkF, bnd_ok', lift_some, bndS_nx, bndS_rt, iv_xor, iv_and, iv_add, iv_axor, iv_aadd, iv_eq, iv_ne, iv_lt, iv_gt, iv_le, tru_bl, int0, int1, int2, decide_eq_true hlt]
  have t3 : ∀ l : List (Nat × Nat), bifV .all h [.lst (l.map fun _ => .bl true)] = some (.bl true) := fun l => by
    show ofBls h (fun l => l.all id) (.lst (l.map fun _ => Vl.bl true)) = _
    simp only [ofBls, lstOf, bls_true', List.all_map]
    simp
  simp only [evS, evE, evA, evF, evW, part1, part0, evC, List.getElem?_cons_zero, List.getElem?_cons_succ, putE, List.set_cons_zero, List.set_cons_succ, tgV, putEs, wipeE, walkC, walkF, bnd_ok', lift_some, bndS_nx, bndS_rt, iv_xor, iv_and, iv_add, iv_axor, iv_aadd, iv_eq, iv_ne, iv_lt, iv_gt, iv_le, tru_bl, int0, int1, int2, List.nil_append, t3]
theorem subN' {a b : Nat} (hab : b ≤ a) : binV .sub h (iv a) (iv b) = some (iv (a - b)) := by
  show (match binI .sub (a : Int) (b : Int) with | some k => some (Vl.int k) | none => none) = _
  rw [subN hab]
  rfl
theorem r26 (ps : List Nat) (hm : ∀ p ∈ ps, p ≤ 23) (ha : ps.Pairwise (· < ·)) (hl : ps.length ≤ 1000) : run GG FF (n + 4) 26 [.tup (ps.map iv)] h = .ok (iv (ps.map (2 ^ ·)).sum) h := by
  refine run_ret (d := f26) rfl rfl ?_
  show evS GG (run GG FF (n + 3)) f26.body [some (.tup (ps.map iv))] h = _
  simp only [f26, evS, evE, evA, evF, evW, part1, part0, evC, List.getElem?_cons_zero, List.getElem?_cons_succ, putE, List.set_cons_zero, List.set_cons_succ, tgV, putEs, wipeE, walkC, walkF, bnd_ok', lift_some, bndS_nx, bndS_rt, iv_xor, iv_and, iv_add, iv_axor, iv_aadd, iv_eq, iv_ne, iv_lt, iv_gt, iv_le, tru_bl, int0, int1, int2, g0, subN' (show 1 ≤ 24 by decide), r4 ps (24 - 1) (fun p hp => Nat.le_trans (hm p hp) (by decide)) ha hl, Bool.not_true, r10 ps (fun p hp => Nat.le_trans (hm p hp) (by decide)) hl]
def spanF (bs acc : List Nat) : List Nat := bs.foldl (fun acc w => acc ++ acc.map (· ^^^ w)) acc
def spTurn (cf : CF) (x : Vl) (env : Env) (h : Hh) : R Oc := match tgV (.n 2) x env with
  | some env' => evS GG cf (.ex (.mth .extend (.var 1) (.acons (.fz (.comp [3] (.n 3) (.over (.fz (.listof (.var 1)))) .noe (.bin .xor (.var 3) (.var 2)))) .anil))) env' h
  | none => .bad
theorem spanF_ok {cf : CF} {t : Vl} : ∀ (bs : List Nat) (acc : List Nat) (o : Option Vl), acc.length * 2 ^ bs.length ≤ 100000 →
    ∃ o', forL (spTurn cf) (bs.map iv) [some t, some (.ref h.length), o, none] (h ++ [.lst (acc.map iv)]) = .ok (.nx [some t, some (.ref h.length), o', none]) (h ++ [.lst ((spanF bs acc).map iv)])
  | [], acc, o, _ => ⟨o, rfl⟩
  | b :: bs, acc, o, hz => by
    have hz2 : (acc ++ acc.map (· ^^^ b)).length * 2 ^ bs.length ≤ 100000 := by
      rw [List.length_append, List.length_map]
      rw [List.length_cons, Nat.pow_succ] at hz
      have : (acc.length + acc.length) * 2 ^ bs.length = acc.length * (2 ^ bs.length * 2) := by
        rw [Nat.add_mul, ← Nat.mul_assoc]
        omega
      omega
    have hle : acc.length ≤ 100000 := by
      have h1 : 1 ≤ 2 ^ (b :: bs).length := Nat.one_le_two_pow
      have := Nat.mul_le_mul_left acc.length h1
      omega
    obtain ⟨o', e⟩ := spanF_ok bs (acc ++ acc.map (· ^^^ b)) (some (iv b)) hz2
    refine ⟨o', ?_⟩
    have big := line_big
    have hr : rcv .extend (h ++ [.lst (acc.map iv)]) (.ref h.length) = true := by
      show (match (h ++ [Ob.lst (acc.map iv)])[h.length]? with
        | some (.lst _) => true
        | _ => false) = true
      rw [get_last]
    have hs : seqOf (h ++ [.lst (acc.map iv)]) (.ref h.length) = some (acc.map iv) := by
      show (match (h ++ [Ob.lst (acc.map iv)])[h.length]? with
        | some (.lst xs) => some xs
        | _ => none) = _
      rw [get_last]
    have hx : mthV .extend (h ++ [.lst (acc.map iv)]) (.ref h.length) [.lst (acc.map fun a => iv (a ^^^ b))] = .ok .non (h ++ [.lst ((acc ++ acc.map (· ^^^ b)).map iv)]) := by
      show (match (h ++ [Ob.lst (acc.map iv)])[h.length]? with
        | some (.lst l) => if l.length + (acc.map fun a => iv (a ^^^ b)).length ≤ line then R.ok Vl.non ((h ++ [Ob.lst (acc.map iv)]).set h.length (.lst (l ++ (acc.map fun a => iv (a ^^^ b))))) else .bad
        | _ => .bad) = _
      rw [get_last]
      dsimp only
      have hsz : (acc.map iv).length + (acc.map fun a => iv (a ^^^ b)).length ≤ line := by
        simp
        have h2 : 2 ≤ 2 ^ (b :: bs).length := by
          rw [List.length_cons, Nat.pow_succ]
          have : 1 ≤ 2 ^ bs.length := Nat.one_le_two_pow
          omega
        have := Nat.mul_le_mul_left acc.length h2
        omega
      rw [if_pos hsz, set_last, List.map_append, List.map_map]
      rfl
    have ht : spTurn cf (iv b) [some t, some (.ref h.length), o, none] (h ++ [.lst (acc.map iv)]) = .ok (.nx [some t, some (.ref h.length), some (iv b), none]) (h ++ [.lst ((acc ++ acc.map (· ^^^ b)).map iv)]) := by
      unfold spTurn
      simp only [evS, evE, evA, evF, evW, part1, part0, evC, List.getElem?_cons_zero, List.getElem?_cons_succ, putE, List.set_cons_zero, List.set_cons_succ, tgV, putEs, wipeE, walkC, walkF, bnd_ok', lift_some, bndS_nx, bndS_rt, iv_xor, iv_and, iv_add, iv_axor, iv_aadd, iv_eq, iv_ne, iv_lt, iv_gt, iv_le, tru_bl, int0, int1, int2, hr, hs]
      rw [compL_map (k := fun a => iv (a ^^^ b)) (by simp; omega) ?hk]
      case hk =>
        intro a _
        simp only [evS, evE, evA, evF, evW, part1, part0, evC, List.getElem?_cons_zero, List.getElem?_cons_succ, putE, List.set_cons_zero, List.set_cons_succ, tgV, putEs, wipeE, walkC, walkF, bnd_ok', lift_some, bndS_nx, bndS_rt, iv_xor, iv_and, iv_add, iv_axor, iv_aadd, iv_eq, iv_ne, iv_lt, iv_gt, iv_le, tru_bl, int0, int1, int2]
      simp only [evS, evE, evA, evF, evW, part1, part0, evC, List.getElem?_cons_zero, List.getElem?_cons_succ, putE, List.set_cons_zero, List.set_cons_succ, tgV, putEs, wipeE, walkC, walkF, bnd_ok', lift_some, bndS_nx, bndS_rt, iv_xor, iv_and, iv_add, iv_axor, iv_aadd, iv_eq, iv_ne, iv_lt, iv_gt, iv_le, tru_bl, int0, int1, int2, List.nil_append, hx]
    rw [List.map_cons]
    show (match spTurn cf (iv b) [some t, some (.ref h.length), o, none] (h ++ [.lst (acc.map iv)]) with
      | .ok (.nx env1) h1 => forL (spTurn cf) (bs.map iv) env1 h1
      | .ok (.ct env1) h1 => forL (spTurn cf) (bs.map iv) env1 h1
      | .ok (.bk env1) h1 => .ok (.nx env1) h1
      | .ok (.rt v) h1 => .ok (.rt v) h1
      | .exc c p h1 => .exc c p h1
      | .bad => .bad) = _
    rw [ht]
    exact e
theorem r16 (bs : List Nat) (hl : bs.length ≤ 12) (hw : wfH h.length h = true) : run GG FF (n + 1) 16 [.tup (bs.map iv)] h = .ok (.lst ((spanF bs.reverse [0]).map iv)) h := by
  rw [run_eq (d := f16) rfl rfl]
  have h0 : decide ([iv 0].length ≤ line) = true := decide_eq_true (by show 1 ≤ line; decide)
  have hz : ([0] : List Nat).length * 2 ^ bs.reverse.length ≤ 100000 := by
    rw [List.length_reverse, List.length_singleton, Nat.one_mul]
    have := Nat.pow_le_pow_right (show 0 < 2 by decide) hl
    have : 2 ^ 12 = 4096 := by decide
    omega
  obtain ⟨o', e⟩ := spanF_ok (h := h) (cf := run GG FF n) (t := .tup (bs.map iv)) bs.reverse [0] none hz
  have e2 : evS GG (run GG FF n) f16.body [some (.tup (bs.map iv)), none, none, none] h = .ok (.rt (.ref h.length)) (h ++ [.lst ((spanF bs.reverse [0]).map iv)]) := by
    have f : f16.body = .seq (.set 1 (.th (.disp (.acons (.int 0) .anil)))) (.seq (.fors (.n 2) (.over (.rev (.var 0))) (.ex (.mth .extend (.var 1) (.acons (.fz (.comp [3] (.n 3) (.over (.fz (.listof (.var 1)))) .noe (.bin .xor (.var 3) (.var 2)))) .anil)))) (.ret (.var 1))) := rfl
    have fo : ∀ env h, evS GG (run GG FF n) (.fors (.n 2) (.over (.rev (.var 0))) (.ex (.mth .extend (.var 1) (.acons (.fz (.comp [3] (.n 3) (.over (.fz (.listof (.var 1)))) .noe (.bin .xor (.var 3) (.var 2)))) .anil)))) env h = bnd (evW GG (run GG FF n) (.over (.rev (.var 0))) env h) fun w h => walkF (spTurn (run GG FF n)) w env h := fun env h => rfl
    have se : ∀ a b env h, evS GG (run GG FF n) (.seq a b) env h = bndS (evS GG (run GG FF n) a env h) fun env h => evS GG (run GG FF n) b env h := fun _ _ _ _ => rfl
    rw [f, se]
    have s1 : evS GG (run GG FF n) (.set 1 (.th (.disp (.acons (.int 0) .anil)))) [some (.tup (bs.map iv)), none, none, none] h = .ok (.nx [some (.tup (bs.map iv)), some (.ref h.length), none, none]) (h ++ [.lst ([0].map iv)]) := by
      simp only [evS, evE, evA, evF, evW, part1, part0, evC, List.getElem?_cons_zero, List.getElem?_cons_succ, putE, List.set_cons_zero, List.set_cons_succ, tgV, putEs, wipeE, walkC, walkF, bnd_ok', lift_some, bndS_nx, bndS_rt, iv_xor, iv_and, iv_add, iv_axor, iv_aadd, iv_eq, iv_ne, iv_lt, iv_gt, iv_le, tru_bl, int0, int1, int2, h0]
      rfl
    rw [s1, bndS_nx, se, fo]
    have s2 : evW GG (run GG FF n) (.over (.rev (.var 0))) [some (.tup (bs.map iv)), some (.ref h.length), none, none] (h ++ [.lst ([0].map iv)]) = .ok (.its (bs.reverse.map iv)) (h ++ [.lst ([0].map iv)]) := by
      simp only [evS, evE, evA, evF, evW, part1, part0, evC, List.getElem?_cons_zero, List.getElem?_cons_succ, putE, List.set_cons_zero, List.set_cons_succ, tgV, putEs, wipeE, walkC, walkF, bnd_ok', lift_some, bndS_nx, bndS_rt, iv_xor, iv_and, iv_add, iv_axor, iv_aadd, iv_eq, iv_ne, iv_lt, iv_gt, iv_le, tru_bl, int0, int1, int2, revW, List.map_reverse]
    rw [s2, bnd_ok']
    show bndS (forL (spTurn (run GG FF n)) (bs.reverse.map iv) _ _) _ = _
    rw [e, bndS_nx]
    rfl
  show endF f16.frz h.length (evS GG (run GG FF n) f16.body [some (.tup (bs.map iv)), none, none, none] h) = _
  rw [e2]
  exact end_frz _ hw
end
end Law
set_option Elab.async false
set_option linter.all false
set_option maxRecDepth 100000
set_option maxHeartbeats 1000000
namespace Law
open Mi Gf
theorem while_t {test : Env → Hh → R Bool} {body : Env → Hh → R Oc} {k : Nat} {env env' : Env} {h h1 h2 : Hh} (t : test env h = .ok true h1) (b : body env h1 = .ok (.nx env') h2) : whileL test body (k + 1) env h = whileL test body k env' h2 := by
  show (match test env h with
    | .ok true h1 => match body env h1 with
      | .ok (.nx env2) h2 => whileL test body k env2 h2
      | .ok (.ct env2) h2 => whileL test body k env2 h2
      | .ok (.bk env2) h2 => .ok (.nx env2) h2
      | .ok (.rt v) h2 => .ok (.rt v) h2
      | .exc c p h2 => .exc c p h2
      | .bad => .bad
    | .ok false h1 => .ok (.nx env) h1
    | .exc c p h1 => .exc c p h1
    | .bad => .bad) = _
  rw [t]
  dsimp only
  rw [b]
theorem while_f {test : Env → Hh → R Bool} {body : Env → Hh → R Oc} {k : Nat} {env : Env} {h h1 : Hh} (t : test env h = .ok false h1) : whileL test body (k + 1) env h = .ok (.nx env) h1 := by
  show (match test env h with
    | .ok true h1 => match body env h1 with
      | .ok (.nx env2) h2 => whileL test body k env2 h2
      | .ok (.ct env2) h2 => whileL test body k env2 h2
      | .ok (.bk env2) h2 => .ok (.nx env2) h2
      | .ok (.rt v) h2 => .ok (.rt v) h2
      | .exc c p h2 => .exc c p h2
      | .bad => .bad
    | .ok false h1 => .ok (.nx env) h1
    | .exc c p h1 => .exc c p h1
    | .bad => .bad) = _
  rw [t]
section
variable {n : Nat} {h : Hh}
theorem iv_mod {a b : Nat} (hb : 0 < b) : binV .mod h (iv a) (iv b) = some (iv (a % b)) := by
  show (match binI .mod (a : Int) (b : Int) with | some k => some (Vl.int k) | none => none) = _
  rw [modN hb]
  rfl
theorem iv_fdiv {a b : Nat} (hb : 0 < b) (hl : b.log2 < 9000) : binV .fdiv h (iv a) (iv b) = some (iv (a / b)) := by
  have e : binI .fdiv (a : Int) (b : Int) = some ((a / b : Nat) : Int) := by
    show (if (0 : Int) < (b : Int) then (if (b : Int).natAbs.log2 < 9000 then some ((a : Int) / b) else none) else none) = _
    rw [if_pos (by omega), Int.natAbs_natCast, if_pos hl]
    rfl
  show (match binI .fdiv (a : Int) (b : Int) with | some k => some (Vl.int k) | none => none) = _
  rw [e]
  rfl
theorem iv_shl {p : Nat} (hp : p ≤ 1000) : binV .shl h (iv 1) (iv p) = some (iv (2 ^ p)) := by
  show (match binI .shl 1 (p : Int) with | some k => some (Vl.int k) | none => none) = _
  rw [shl1 hp]
  rfl
theorem bif_int (w : Nat) : bifV .int h [iv w] = some (iv w) := rfl
theorem r37 (w p : Nat) (hp : p ≤ 1000) : run GG FF (n + 1) 37 [iv w, iv p] h = .ok (.bl (w.testBit p)) h := by
  refine run_ret (d := f37) rfl rfl ?_
  show evS GG (run GG FF n) f37.body [some (iv w), some (iv p)] h = _
  have hl : (2 ^ p).log2 < 9000 := by rw [Nat.log2_two_pow]; omega
  simp only [f37, evS, evE, evA, evF, evW, part1, part0, evC, List.getElem?_cons_zero, List.getElem?_cons_succ, putE, List.set_cons_zero, List.set_cons_succ, tgV, putEs, wipeE, walkC, walkF, bnd_ok', lift_some, bndS_nx, bndS_rt, iv_xor, iv_and, iv_add, iv_axor, iv_aadd, iv_eq, iv_ne, iv_lt, iv_gt, iv_le, tru_bl, int0, int1, int2, iv_shl hp, iv_fdiv (Nat.two_pow_pos p) hl, bif_int, iv_mod (show 0 < 2 by decide)]
  congr 3
  rw [Nat.testBit_eq_decide_div_mod_eq]
def popc : Nat → Nat → Nat
  | 0, _ => 0
  | k + 1, w => w % 2 + popc k (w / 2)
theorem popc_zero : ∀ k, popc k 0 = 0
  | 0 => rfl
  | k + 1 => by
    show 0 % 2 + popc k (0 / 2) = 0
    rw [Nat.zero_div, popc_zero k]
theorem wh34 {cf : CF} : ∀ (k fuel w f : Nat), w < 2 ^ k → k < fuel →
    whileL (fun env h => bnd (evE GG cf (.cmp .gt (.var 0) (.int 0)) env h) fun x h => lift (truth h x) h) (fun env h => evS GG cf (.par [1, 0] (.acons (.bin .add (.var 1) (.bin .mod (.var 0) (.int 2))) (.acons (.bin .fdiv (.var 0) (.int 2)) .anil))) env h) fuel [some (iv w), some (iv f)] h = .ok (.nx [some (iv 0), some (iv (f + popc k w))]) h
  | k, 0, w, f, _, hf => by omega
  | 0, fuel + 1, w, f, hw, _ => by
    have : w = 0 := by simpa using hw
    subst this
    unfold whileL
    simp only [evS, evE, evA, evF, evW, part1, part0, evC, List.getElem?_cons_zero, List.getElem?_cons_succ, putE, List.set_cons_zero, List.set_cons_succ, tgV, putEs, wipeE, walkC, walkF, bnd_ok', lift_some, bndS_nx, bndS_rt, iv_xor, iv_and, iv_add, iv_axor, iv_aadd, iv_eq, iv_ne, iv_lt, iv_gt, iv_le, tru_bl, int0, int1, int2, decide_eq_false (Nat.lt_irrefl 0)]
    rfl
  | k + 1, fuel + 1, w, f, hw, hf => by
    by_cases hz : w = 0
    · subst hz
      unfold whileL
      simp only [evS, evE, evA, evF, evW, part1, part0, evC, List.getElem?_cons_zero, List.getElem?_cons_succ, putE, List.set_cons_zero, List.set_cons_succ, tgV, putEs, wipeE, walkC, walkF, bnd_ok', lift_some, bndS_nx, bndS_rt, iv_xor, iv_and, iv_add, iv_axor, iv_aadd, iv_eq, iv_ne, iv_lt, iv_gt, iv_le, tru_bl, int0, int1, int2, decide_eq_false (Nat.lt_irrefl 0), popc_zero, Nat.add_zero]
    · have hlt : w / 2 < 2 ^ k := by
        rw [Nat.pow_succ] at hw
        omega
      have ih := wh34 (cf := cf) k fuel (w / 2) (f + w % 2) hlt (by omega)
      rw [show f + popc (k + 1) w = f + w % 2 + popc k (w / 2) by show f + (w % 2 + popc k (w / 2)) = _; omega, ← ih]
      have t1 : (fun env h => bnd (evE GG cf (.cmp .gt (.var 0) (.int 0)) env h) fun x h => lift (truth h x) h) [some (iv w), some (iv f)] h = .ok true h := by
        simp only [evS, evE, evA, evF, evW, part1, part0, evC, List.getElem?_cons_zero, List.getElem?_cons_succ, putE, List.set_cons_zero, List.set_cons_succ, tgV, putEs, wipeE, walkC, walkF, bnd_ok', lift_some, bndS_nx, bndS_rt, iv_xor, iv_and, iv_add, iv_axor, iv_aadd, iv_eq, iv_ne, iv_lt, iv_gt, iv_le, tru_bl, int0, int1, int2, decide_eq_true (Nat.pos_of_ne_zero hz)]
      have t2 : (fun env h => evS GG cf (.par [1, 0] (.acons (.bin .add (.var 1) (.bin .mod (.var 0) (.int 2))) (.acons (.bin .fdiv (.var 0) (.int 2)) .anil))) env h) [some (iv w), some (iv f)] h = .ok (.nx [some (iv (w / 2)), some (iv (f + w % 2))]) h := by
        simp only [evS, evE, evA, evF, evW, part1, part0, evC, List.getElem?_cons_zero, List.getElem?_cons_succ, putE, List.set_cons_zero, List.set_cons_succ, tgV, putEs, wipeE, walkC, walkF, bnd_ok', lift_some, bndS_nx, bndS_rt, iv_xor, iv_and, iv_add, iv_axor, iv_aadd, iv_eq, iv_ne, iv_lt, iv_gt, iv_le, tru_bl, int0, int1, int2, iv_mod (show 0 < 2 by decide), iv_fdiv (show 0 < 2 by decide) (show Nat.log2 2 < 9000 by decide)]
      exact while_t t1 t2
theorem r34 (w : Nat) (hw : w < 2 ^ 24) : run GG FF (n + 1) 34 [iv w] h = .ok (iv (popc 24 w)) h := by
  refine run_ret (d := f34) rfl rfl ?_
  show evS GG (run GG FF n) f34.body [some (iv w), none] h = _
  have q := wh34 (cf := run GG FF n) (h := h) 24 fuelW w 0 hw (by decide)
  have f : f34.body = .seq (.set 1 (.int 0)) (.seq (.whiles (.cmp .gt (.var 0) (.int 0)) (.par [1, 0] (.acons (.bin .add (.var 1) (.bin .mod (.var 0) (.int 2))) (.acons (.bin .fdiv (.var 0) (.int 2)) .anil)))) (.ret (.var 1))) := rfl
  rw [f]
  show bndS (whileL _ _ fuelW [some (iv w), some (iv 0)] h) _ = _
  rw [q, Nat.zero_add]
  rfl
theorem r35 (a b : Nat) (ha : a < 2 ^ 24) : run GG FF (n + 2) 35 [iv a, iv b] h = .ok (iv (popc 24 (a &&& b) % 2)) h := by
  refine run_ret (d := f35) rfl rfl ?_
  show evS GG (run GG FF (n + 1)) f35.body [some (iv a), some (iv b)] h = _
  have hlt : a &&& b < 2 ^ 24 := Nat.lt_of_le_of_lt Nat.and_le_left ha
  simp only [f35, evS, evE, evA, evF, evW, part1, part0, evC, List.getElem?_cons_zero, List.getElem?_cons_succ, putE, List.set_cons_zero, List.set_cons_succ, tgV, putEs, wipeE, walkC, walkF, bnd_ok', lift_some, bndS_nx, bndS_rt, iv_xor, iv_and, iv_add, iv_axor, iv_aadd, iv_eq, iv_ne, iv_lt, iv_gt, iv_le, tru_bl, int0, int1, int2, r34 _ hlt, bif_int, iv_mod (show 0 < 2 by decide)]
theorem wh36 {cf : CF} : ∀ (k fuel w : Nat) (f : Int), w < 2 ^ k → k < fuel →
    whileL (fun env h => bnd (evE GG cf (.cmp .gt (.var 0) (.int 0)) env h) fun x h => lift (truth h x) h) (fun env h => evS GG cf (.par [1, 0] (.acons (.bin .add (.var 1) (.int 1)) (.acons (.bin .fdiv (.var 0) (.int 2)) .anil))) env h) fuel [some (iv w), some (.int f)] h = .ok (.nx [some (iv 0), some (.int (f + bits w))]) h
  | k, 0, w, f, _, hf => by omega
  | k, fuel + 1, w, f, hw, hf => by
    by_cases hz : w = 0
    · subst hz
      have t : (fun env h => bnd (evE GG cf (.cmp .gt (.var 0) (.int 0)) env h) fun x h => lift (truth h x) h) [some (iv 0), some (.int f)] h = .ok false h := by
        simp only [evS, evE, evA, evF, evW, part1, part0, evC, List.getElem?_cons_zero, List.getElem?_cons_succ, putE, List.set_cons_zero, List.set_cons_succ, tgV, putEs, wipeE, walkC, walkF, bnd_ok', lift_some, bndS_nx, bndS_rt, iv_xor, iv_and, iv_add, iv_axor, iv_aadd, iv_eq, iv_ne, iv_lt, iv_gt, iv_le, tru_bl, int0, int1, int2, decide_eq_false (Nat.lt_irrefl 0)]
      rw [while_f t]
      show _ = R.ok (Oc.nx [some (iv 0), some (.int (f + (0 : Nat)))]) h
      rw [Int.natCast_zero, Int.add_zero]
    · cases k with
      | zero => exact absurd (by simpa using hw) hz
      | succ k =>
        have hlt : w / 2 < 2 ^ k := by
          rw [Nat.pow_succ] at hw
          omega
        have ih := wh36 (cf := cf) k fuel (w / 2) (f + 1) hlt (by omega)
        have hb : (f + 1 + bits (w / 2) : Int) = f + bits w := by
          unfold bits
          rw [if_neg hz]
          by_cases h2 : w / 2 = 0
          · rw [if_pos h2]
            have : w = 1 := by omega
            subst this
            have l1 : Nat.log2 1 = 0 := by decide
            rw [l1]
            omega
          · rw [if_neg h2]
            have e : w.log2 = (w / 2).log2 + 1 := by
              rw [Nat.log2_def w, if_pos (by omega)]
            rw [e]
            omega
        rw [← hb, ← ih]
        have t1 : (fun env h => bnd (evE GG cf (.cmp .gt (.var 0) (.int 0)) env h) fun x h => lift (truth h x) h) [some (iv w), some (.int f)] h = .ok true h := by
          simp only [evS, evE, evA, evF, evW, part1, part0, evC, List.getElem?_cons_zero, List.getElem?_cons_succ, putE, List.set_cons_zero, List.set_cons_succ, tgV, putEs, wipeE, walkC, walkF, bnd_ok', lift_some, bndS_nx, bndS_rt, iv_xor, iv_and, iv_add, iv_axor, iv_aadd, iv_eq, iv_ne, iv_lt, iv_gt, iv_le, tru_bl, int0, int1, int2, decide_eq_true (Nat.pos_of_ne_zero hz)]
        have ad : binV .add h (.int f) (iv 1) = some (.int (f + 1)) := rfl
        have t2 : (fun env h => evS GG cf (.par [1, 0] (.acons (.bin .add (.var 1) (.int 1)) (.acons (.bin .fdiv (.var 0) (.int 2)) .anil))) env h) [some (iv w), some (.int f)] h = .ok (.nx [some (iv (w / 2)), some (.int (f + 1))]) h := by
          simp only [evS, evE, evA, evF, evW, part1, part0, evC, List.getElem?_cons_zero, List.getElem?_cons_succ, putE, List.set_cons_zero, List.set_cons_succ, tgV, putEs, wipeE, walkC, walkF, bnd_ok', lift_some, bndS_nx, bndS_rt, iv_xor, iv_and, iv_add, iv_axor, iv_aadd, iv_eq, iv_ne, iv_lt, iv_gt, iv_le, tru_bl, int0, int1, int2, ad, iv_fdiv (show 0 < 2 by decide) (show Nat.log2 2 < 9000 by decide)]
        exact while_t t1 t2
theorem r36 (w : Nat) (hw : w < 2 ^ 24) (hz : w ≠ 0) : run GG FF (n + 1) 36 [iv w] h = .ok (iv w.log2) h := by
  refine run_ret (d := f36) rfl rfl ?_
  show evS GG (run GG FF n) f36.body [some (iv w), none] h = _
  have q := wh36 (cf := run GG FF n) (h := h) 24 fuelW w (-1) hw (by decide)
  have f : f36.body = .seq (.set 1 (.neg (.int 1))) (.seq (.whiles (.cmp .gt (.var 0) (.int 0)) (.par [1, 0] (.acons (.bin .add (.var 1) (.int 1)) (.acons (.bin .fdiv (.var 0) (.int 2)) .anil)))) (.ret (.var 1))) := rfl
  rw [f]
  show bndS (whileL _ _ fuelW [some (iv w), some (.int (-1))] h) _ = _
  rw [q]
  have e : (-1 + bits w : Int) = w.log2 := by
    unfold bits
    rw [if_neg hz]
    omega
  rw [e]
  rfl
theorem r39 (bs : List Nat) (hb : ∀ b ∈ bs, b ≠ 0 ∧ b < 2 ^ 24) (w : Nat) : run GG FF (n + 2) 39 [.tup (bs.map iv), iv w] h = .ok (iv (rem bs w)) h := by
  refine run_ret (d := f39) rfl rfl ?_
  show evS GG (run GG FF (n + 1)) f39.body [some (.tup (bs.map iv)), some (iv w), none] h = _
  simp only [f39, evS, evE, evA, evF, evW, part1, part0, evC, List.getElem?_cons_zero, List.getElem?_cons_succ, putE, List.set_cons_zero, List.set_cons_succ, tgV, putEs, wipeE, walkC, walkF, bnd_ok', lift_some, bndS_nx, bndS_rt, iv_xor, iv_and, iv_add, iv_axor, iv_aadd, iv_eq, iv_ne, iv_lt, iv_gt, iv_le, tru_bl, int0, int1, int2]
  rw [forL_f (fun s : Nat × Option Vl => [some (.tup (bs.map iv)), some (iv s.1), s.2]) (fun s b => (if s.1.testBit b.log2 then s.1 ^^^ b else s.1, some (iv b))) (w, none) rfl ?_]
  · have f : ∀ (l : List Nat) (s : Nat × Option Vl), (l.foldl (fun s b => (if s.1.testBit b.log2 then s.1 ^^^ b else s.1, some (iv b))) s).1 = rem l s.1 := by
      intro l
      induction l with
      | nil => intro s; rfl
      | cons b l ih => intro s; exact ih _
    simp only [evS, evE, evA, evF, evW, part1, part0, evC, List.getElem?_cons_zero, List.getElem?_cons_succ, putE, List.set_cons_zero, List.set_cons_succ, tgV, putEs, wipeE, walkC, walkF, bnd_ok', lift_some, bndS_nx, bndS_rt, iv_xor, iv_and, iv_add, iv_axor, iv_aadd, iv_eq, iv_ne, iv_lt, iv_gt, iv_le, tru_bl, int0, int1, int2, f]
  · intro b hb' s
    obtain ⟨h1, h2⟩ := hb b hb'
    have hl : b.log2 ≤ 1000 := by
      have := (Nat.log2_lt h1).mpr h2
      omega
    simp only [evS, evE, evA, evF, evW, part1, part0, evC, List.getElem?_cons_zero, List.getElem?_cons_succ, putE, List.set_cons_zero, List.set_cons_succ, tgV, putEs, wipeE, walkC, walkF, bnd_ok', lift_some, bndS_nx, bndS_rt, iv_xor, iv_and, iv_add, iv_axor, iv_aadd, iv_eq, iv_ne, iv_lt, iv_gt, iv_le, tru_bl, int0, int1, int2, r36 b h2 h1, r37 s.1 b.log2 hl]
    cases hs : s.1.testBit b.log2 with
    | true => simp only [evS, evE, evA, evF, evW, part1, part0, evC, List.getElem?_cons_zero, List.getElem?_cons_succ, putE, List.set_cons_zero, List.set_cons_succ, tgV, putEs, wipeE, walkC, walkF, bnd_ok', lift_some, bndS_nx, bndS_rt, iv_xor, iv_and, iv_add, iv_axor, iv_aadd, iv_eq, iv_ne, iv_lt, iv_gt, iv_le, tru_bl, int0, int1, int2, if_true]
    | false => simp only [evS, evE, evA, evF, evW, part1, part0, evC, List.getElem?_cons_zero, List.getElem?_cons_succ, putE, List.set_cons_zero, List.set_cons_succ, tgV, putEs, wipeE, walkC, walkF, bnd_ok', lift_some, bndS_nx, bndS_rt, iv_xor, iv_and, iv_add, iv_axor, iv_aadd, iv_eq, iv_ne, iv_lt, iv_gt, iv_le, tru_bl, int0, int1, int2, Bool.false_eq_true, if_false]
end
end Law
set_option Elab.async false
set_option linter.all false
set_option maxRecDepth 100000
set_option maxHeartbeats 1000000
namespace Law
open Mi Gf
section
variable {n : Nat} {h : Hh}
theorem iv_mul {a b : Nat} (hs : a < 18446744073709551616 ∨ b < 18446744073709551616) : binV .mul h (iv a) (iv b) = some (iv (a * b)) := by
  have e : binI .mul (a : Int) (b : Int) = some ((a * b : Nat) : Int) := by
    show (if (a : Int).natAbs.log2 + (b : Int).natAbs.log2 < 1000000 ∨ (-18446744073709551616 < (a : Int) ∧ (a : Int) < 18446744073709551616) ∨ (-18446744073709551616 < (b : Int) ∧ (b : Int) < 18446744073709551616) then some ((a : Int) * b) else none) = _
    rw [if_pos (by omega), Int.natCast_mul]
  show (match binI .mul (a : Int) (b : Int) with | some k => some (Vl.int k) | none => none) = _
  rw [e]
  rfl
theorem sub_at {p : Nat} {g s c : Vl} (hp : h[p]? = some (.lst [g, s, c])) : subV h (.ref p) (iv 0) = some g ∧ subV h (.ref p) (iv 1) = some s ∧ subV h (.ref p) (iv 2) = some c := by
  have e : ∀ k : Nat, subV h (.ref p) (iv k) = match Mi.ixN 3 (k : Int) with
    | some j => [g, s, c][j]?
    | none => none := fun k => by
    show (match h[p]? with
      | some (.lst xs) => match Mi.ixN xs.length (k : Int) with
        | some j => xs[j]?
        | none => none
      | some (.dct kvs) => dget (iv k) kvs
      | _ => none) = _
    rw [hp]
    rfl
  exact ⟨e 0, e 1, e 2⟩
theorem set_at {p : Nat} {g s c : Vl} (hp : h[p]? = some (.lst [g, s, c])) (v : Vl) : setV h (.ref p) (iv 0) v = some (h.set p (.lst [v, s, c])) ∧ setV h (.ref p) (iv 2) v = some (h.set p (.lst [g, s, v])) := by
  have e : ∀ k : Nat, setV h (.ref p) (iv k) v = match Mi.ixN 3 (k : Int) with
    | some j => some (h.set p (.lst ([g, s, c].set j v)))
    | none => none := fun k => by
    show (match h[p]? with
      | some (.lst xs) => match Mi.ixN xs.length (k : Int) with
        | some j => some (h.set p (.lst (xs.set j v)))
        | none => none
      | some (.dct kvs) => match keyOk (iv k) with
        | true => if kvs.length < line then some (h.set p (.dct (dput (iv k) v kvs))) else none
        | false => none
      | _ => none) = _
    rw [hp]
    rfl
  exact ⟨e 0, e 2⟩
def K0 : Nat := 67867979
def K1 : Nat := 2305843009213693951
def K2 : Nat := 49979687
def K3 : Nat := 2305843009213693907
def K4 : Nat := 86028121
def K5 : Nat := 23
def K6 : Nat := 65537
theorem lit1 : Vl.int 67867979 = iv K0 := congrArg Vl.int (show (67867979 : Int) = ((K0 : Nat) : Int) by decide)
theorem lit2 : Vl.int 2305843009213693951 = iv K1 := congrArg Vl.int (show (2305843009213693951 : Int) = ((K1 : Nat) : Int) by decide)
theorem lit3 : Vl.int 49979687 = iv K2 := congrArg Vl.int (show (49979687 : Int) = ((K2 : Nat) : Int) by decide)
theorem lit4 : Vl.int 2305843009213693907 = iv K3 := congrArg Vl.int (show (2305843009213693907 : Int) = ((K3 : Nat) : Int) by decide)
theorem lit5 : Vl.int 86028121 = iv K4 := congrArg Vl.int (show (86028121 : Int) = ((K4 : Nat) : Int) by decide)
theorem lit6 : Vl.int 23 = iv K5 := congrArg Vl.int (show (23 : Int) = ((K5 : Nat) : Int) by decide)
theorem lit7 : Vl.int 65537 = iv K6 := congrArg Vl.int (show (65537 : Int) = ((K6 : Nat) : Int) by decide)
theorem k0s : K0 < 18446744073709551616 := by decide
theorem k1p : 0 < K1 := by decide
theorem k1s : K1 < 18446744073709551616 := by decide
theorem k3p : 0 < K3 := by decide
theorem k4s : K4 < 18446744073709551616 := by decide
theorem k5s : K5 < 18446744073709551616 := by decide
theorem k6p : 0 < K6 := by decide
theorem k6l : K6.log2 < 9000 := by decide
theorem r32a {p g s c t : Nat} (hp : h[p]? = some (.lst [iv g, iv s, iv c])) (ht : 0 < t) (hl : t.log2 < 9000) (hg : 0 < g) :
    ∃ r g' c', r < t ∧ run GG FF (n + 1) 32 [.ref p, iv t] h = .ok (iv r) (h.set p (.lst [iv g', iv s, iv c'])) := by
  have hlt : p < h.length := (List.getElem?_eq_some_iff.mp hp).1
  obtain ⟨a0, a1, a2⟩ := sub_at hp
  refine ⟨g % t, g / t, c, Nat.mod_lt _ ht, ?_⟩
  rw [run_eq (d := f32) rfl rfl]
  have e : evS GG (run GG FF n) f32.body [some (.ref p), some (iv t), none, none, none] h = .ok (.rt (iv (g % t))) (h.set p (.lst [iv (g / t), iv s, iv c])) := by
    simp only [f32, evS, evE, evA, evF, evW, part1, part0, evC, List.getElem?_cons_zero, List.getElem?_cons_succ, putE, List.set_cons_zero, List.set_cons_succ, tgV, putEs, wipeE, walkC, walkF, bnd_ok', lift_some, bndS_nx, bndS_rt, iv_xor, iv_and, iv_add, iv_axor, iv_aadd, iv_eq, iv_ne, iv_lt, iv_gt, iv_le, tru_bl, int0, int1, int2, a0, decide_eq_true hg, bif_int, iv_mod ht, iv_fdiv ht hl, (set_at hp (iv (g / t))).1]
  show endF f32.frz h.length (evS GG (run GG FF n) f32.body [some (.ref p), some (iv t), none, none, none] h) = _
  rw [e]
  exact end_ret (by rw [List.length_set]; exact Nat.le_refl _)
end
end Law
set_option Elab.async false
set_option linter.all false
set_option maxRecDepth 100000
set_option maxHeartbeats 1000000
namespace Law
open Mi Gf
section
variable {n : Nat} {h : Hh}
theorem r32c {p g s c t K0 K1 K2 K3 K4 K5 K6 : Nat} (lit1 : Vl.int 67867979 = iv K0) (lit2 : Vl.int 2305843009213693951 = iv K1) (lit3 : Vl.int 49979687 = iv K2) (lit4 : Vl.int 2305843009213693907 = iv K3) (lit5 : Vl.int 86028121 = iv K4) (lit6 : Vl.int 23 = iv K5) (lit7 : Vl.int 65537 = iv K6)
    (k0s : K0 < 18446744073709551616) (k1p : 0 < K1) (k1s : K1 < 18446744073709551616) (k3p : 0 < K3) (k4s : K4 < 18446744073709551616) (k5s : K5 < 18446744073709551616) (k6p : 0 < K6) (k6l : K6.log2 < 9000)
    (hp : h[p]? = some (.lst [iv g, iv s, iv c])) (ht : 0 < t) (hl : t.log2 < 9000) (hg : ¬ 0 < g) :
    ∃ r g' c', r < t ∧ run GG FF (n + 1) 32 [.ref p, iv t] h = .ok (iv r) (h.set p (.lst [iv g', iv s, iv c'])) := by
  have hlt : p < h.length := (List.getElem?_eq_some_iff.mp hp).1
  obtain ⟨a0, a1, a2⟩ := sub_at hp
  have hp1 : (h.set p (.lst [iv g, iv s, iv (c + 1)]))[p]? = some (.lst [iv g, iv s, iv (c + 1)]) := List.getElem?_set_self hlt
  obtain ⟨b0, b1, b2⟩ := sub_at hp1
  have m1 : (s + K0 * (c + 1)) % K1 < K1 := Nat.mod_lt _ k1p
  have m2 : (s + K0 * (c + 1)) % K1 < 18446744073709551616 := Nat.lt_trans m1 k1s
  have e : ∃ r, evS GG (run GG FF n) f32.body [some (.ref p), some (iv t), none, none, none] h = .ok (.rt (iv (r % t))) (h.set p (.lst [iv g, iv s, iv (c + 1)])) := by
    refine ⟨(((s + K0 * (c + 1)) % K1 * ((s + K0 * (c + 1)) % K1) + K2) % K3 * K4 + (s + K0 * (c + 1)) % K1 + K5 * (c + 1)) / K6, ?_⟩
    simp only [f32, evS, evE, evA, evF, evW, part1, part0, evC, List.getElem?_cons_zero, List.getElem?_cons_succ, putE, List.set_cons_zero, List.set_cons_succ, tgV, putEs, wipeE, walkC, walkF, bnd_ok', lift_some, bndS_nx, bndS_rt, iv_xor, iv_and, iv_add, iv_axor, iv_aadd, iv_eq, iv_ne, iv_lt, iv_gt, iv_le, tru_bl, int0, int1, int2, a0, decide_eq_false hg, a2, (set_at hp (iv (c + 1))).2, b1, b2, lit1, lit2, lit3, lit4, lit5, lit6, lit7, bif_int, iv_mul (Or.inl k0s), iv_mod k1p, iv_mul (Or.inl m2), iv_mod k3p, iv_mul (Or.inr k4s), iv_mul (Or.inl k5s), iv_fdiv k6p k6l, iv_mod ht]
  obtain ⟨r, e⟩ := e
  refine ⟨r % t, g, c + 1, Nat.mod_lt _ ht, ?_⟩
  rw [run_eq (d := f32) rfl rfl]
  show endF f32.frz h.length (evS GG (run GG FF n) f32.body [some (.ref p), some (iv t), none, none, none] h) = _
  rw [e]
  exact end_ret (by rw [List.length_set]; exact Nat.le_refl _)
end
end Law
set_option Elab.async false
set_option linter.all false
set_option maxRecDepth 100000
set_option maxHeartbeats 1000000
namespace Law
open Mi Gf
section
variable {n : Nat} {h : Hh}
def Pail (h : Hh) (p : Nat) : Prop := ∃ g s c : Nat, h[p]? = some (.lst [iv g, iv s, iv c])
def Drew (h h' : Hh) (p : Nat) : Prop := Pail h' p ∧ ∃ o, h' = h.set p o
theorem Drew.len {h h' : Hh} {p : Nat} (d : Drew h h' p) : h'.length = h.length := by
  obtain ⟨_, o, rfl⟩ := d
  exact List.length_set ..
theorem Drew.trans {h h1 h2 : Hh} {p : Nat} (a : Drew h h1 p) (b : Drew h1 h2 p) : Drew h h2 p := by
  obtain ⟨_, o, rfl⟩ := a
  obtain ⟨q, o', rfl⟩ := b
  exact ⟨q, o', by rw [List.set_set]⟩
theorem Drew.refl {h : Hh} {p : Nat} (hp : Pail h p) : Drew h h p := by
  obtain ⟨g, s, c, e⟩ := hp
  exact ⟨⟨g, s, c, e⟩, .lst [iv g, iv s, iv c], by
    have hl := (List.getElem?_eq_some_iff.mp e).1
    have he := (List.getElem?_eq_some_iff.mp e).2
    rw [← he, List.set_getElem_self]⟩
theorem r32 {p t : Nat} (hp : Pail h p) (ht : 0 < t) (hl : t.log2 < 9000) : ∃ r h', r < t ∧ run GG FF (n + 1) 32 [.ref p, iv t] h = .ok (iv r) h' ∧ Drew h h' p := by
  obtain ⟨g, s, c, e⟩ := hp
  have hlt := (List.getElem?_eq_some_iff.mp e).1
  have fin : (∃ r g' c' : Nat, r < t ∧ run GG FF (n + 1) 32 [.ref p, iv t] h = .ok (iv r) (h.set p (.lst [iv g', iv s, iv c']))) → ∃ r h', r < t ∧ run GG FF (n + 1) 32 [.ref p, iv t] h = .ok (iv r) h' ∧ Drew h h' p := fun ⟨r, g', c', h1, h2⟩ =>
    ⟨r, _, h1, h2, ⟨g', s, c', List.getElem?_set_self hlt⟩, _, rfl⟩
  by_cases hg : 0 < g
  · exact fin (r32a e ht hl hg)
  · exact fin (r32c (K0 := 67867979) (K1 := 2305843009213693951) (K2 := 49979687) (K3 := 2305843009213693907) (K4 := 86028121) (K5 := 23) (K6 := 65537) rfl rfl rfl rfl rfl rfl rfl (by decide) (by decide) (by decide) (by decide) (by decide) (by decide) (by decide) (by decide) e ht hl hg)
theorem r33 {p : Nat} (hp : Pail h p) (ws : List Nat) (hw : ws ≠ []) (hl : ws.length ≤ 1000) : ∃ w h', w ∈ ws ∧ run GG FF (n + 2) 33 [.ref p, .lst (ws.map iv)] h = .ok (iv w) h' ∧ Drew h h' p := by
  have hpos : 0 < ws.length := List.length_pos_iff.mpr hw
  obtain ⟨r, h', h1, h2, h3⟩ := r32 (n := n) hp hpos (by
    have := Nat.log2_le_self ws.length
    omega)
  have hr : r < (ws.map iv).length := by rw [List.length_map]; exact h1
  refine ⟨ws[r], h', List.getElem_mem h1, ?_, h3⟩
  rw [run_eq (d := f33) rfl rfl]
  have e1 : bifV .len h [.lst (ws.map iv)] = some (iv ws.length) := by
    show some (Vl.int ((ws.map iv).length : Nat)) = _
    rw [List.length_map]
    rfl
  have e2 : subV h' (.lst (ws.map iv)) (iv r) = some (iv ws[r]) := by
    show (match Mi.ixN (ws.map iv).length (r : Int) with
      | some j => (ws.map iv)[j]?
      | none => none) = _
    have : Mi.ixN (ws.map iv).length (r : Int) = some r := by
      show (if r < (ws.map iv).length then some r else none) = _
      rw [if_pos hr]
    rw [this]
    show (ws.map iv)[r]? = _
    rw [List.getElem?_map, List.getElem?_eq_getElem h1]
    rfl
  have e : evS GG (run GG FF (n + 1)) f33.body [some (.ref p), some (.lst (ws.map iv))] h = .ok (.rt (iv ws[r])) h' := by
    simp only [f33, evS, evE, evA, evF, evW, part1, part0, evC, List.getElem?_cons_zero, List.getElem?_cons_succ, putE, List.set_cons_zero, List.set_cons_succ, tgV, putEs, wipeE, walkC, walkF, bnd_ok', lift_some, bndS_nx, bndS_rt, iv_xor, iv_and, iv_add, iv_axor, iv_aadd, iv_eq, iv_ne, iv_lt, iv_gt, iv_le, tru_bl, int0, int1, int2, e1, h2, e2]
  show endF f33.frz h.length (evS GG (run GG FF (n + 1)) f33.body [some (.ref p), some (.lst (ws.map iv))] h) = _
  rw [e]
  exact end_ret (by rw [h3.len]; exact Nat.le_refl _)
end
end Law
set_option Elab.async false
set_option linter.all false
set_option maxRecDepth 100000
set_option maxHeartbeats 1000000
namespace Law
open Mi Gf
theorem forL_ex {turn : Vl → Env → Hh → R Oc} (I : Env → Hh → Prop) : ∀ {xs : List Vl} {env : Env} {h : Hh}, I env h → (∀ x ∈ xs, ∀ env h, I env h → ∃ env' h', turn x env h = .ok (.nx env') h' ∧ I env' h') → ∃ env' h', forL turn xs env h = .ok (.nx env') h' ∧ I env' h'
  | [], env, h, i, _ => ⟨env, h, rfl, i⟩
  | x :: xs, env, h, i, k => by
    obtain ⟨env1, h1, e1, i1⟩ := k x List.mem_cons_self env h i
    obtain ⟨env2, h2, e2, i2⟩ := forL_ex I i1 fun y hy => k y (List.mem_cons_of_mem _ hy)
    refine ⟨env2, h2, ?_, i2⟩
    show (match turn x env h with
      | .ok (.nx env1) h1 => forL turn xs env1 h1
      | .ok (.ct env1) h1 => forL turn xs env1 h1
      | .ok (.bk env1) h1 => .ok (.nx env1) h1
      | .ok (.rt v) h1 => .ok (.rt v) h1
      | .exc c p h1 => .exc c p h1
      | .bad => .bad) = _
    rw [e1]
    exact e2
section
variable {n : Nat} {h : Hh}
theorem r33v {p : Nat} {v : Vl} (hp : Pail h p) (ws : List Nat) (hw : ws ≠ []) (hl : ws.length ≤ 1000) (e1 : lenV h v = some (iv ws.length))
    (e2 : ∀ (r : Nat) (hr : r < ws.length) h', Drew h h' p → subV h' v (iv r) = some (iv ws[r])) : ∃ w h', w ∈ ws ∧ run GG FF (n + 2) 33 [.ref p, v] h = .ok (iv w) h' ∧ Drew h h' p := by
  have hpos : 0 < ws.length := List.length_pos_iff.mpr hw
  obtain ⟨r, h', h1, h2, h3⟩ := r32 (n := n) hp hpos (by
    have := Nat.log2_le_self ws.length
    omega)
  refine ⟨ws[r], h', List.getElem_mem h1, ?_, h3⟩
  rw [run_eq (d := f33) rfl rfl]
  have e3 : bifV .len h [v] = some (iv ws.length) := e1
  have e : evS GG (run GG FF (n + 1)) f33.body [some (.ref p), some v] h = .ok (.rt (iv ws[r])) h' := by
    simp only [f33, evS, evE, evA, evF, evW, part1, part0, evC, List.getElem?_cons_zero, List.getElem?_cons_succ, putE, List.set_cons_zero, List.set_cons_succ, tgV, putEs, wipeE, walkC, walkF, bnd_ok', lift_some, bndS_nx, bndS_rt, iv_xor, iv_and, iv_add, iv_axor, iv_aadd, iv_eq, iv_ne, iv_lt, iv_gt, iv_le, tru_bl, int0, int1, int2, e3, h2, e2 r h1 h' h3]
  show endF f33.frz h.length (evS GG (run GG FF (n + 1)) f33.body [some (.ref p), some v] h) = _
  rw [e]
  exact end_ret (by rw [h3.len]; exact Nat.le_refl _)
theorem sub_words (ws : List Nat) (r : Nat) (hr : r < ws.length) : (match Mi.ixN (ws.map iv).length (r : Int) with
    | some j => (ws.map iv)[j]?
    | none => none) = some (iv ws[r]) := by
  have : Mi.ixN (ws.map iv).length (r : Int) = some r := by
    show (if r < (ws.map iv).length then some r else none) = _
    rw [if_pos (by rw [List.length_map]; exact hr)]
  rw [this]
  show (ws.map iv)[r]? = _
  rw [List.getElem?_map, List.getElem?_eq_getElem hr]
  rfl
theorem len_words (ws : List Nat) : some (Vl.int ((ws.map iv).length : Nat)) = some (iv ws.length) := by
  rw [List.length_map]
  rfl
theorem r33t {p : Nat} (hp : Pail h p) (ws : List Nat) (hw : ws ≠ []) (hl : ws.length ≤ 1000) : ∃ w h', w ∈ ws ∧ run GG FF (n + 2) 33 [.ref p, .tup (ws.map iv)] h = .ok (iv w) h' ∧ Drew h h' p :=
  r33v hp ws hw hl (len_words ws) fun r hr h' _ => sub_words ws r hr
theorem r33r {p q : Nat} (hp : Pail h p) (ws : List Nat) (hw : ws ≠ []) (hl : ws.length ≤ 1000) (hq : h[q]? = some (.lst (ws.map iv))) (hpq : p ≠ q) : ∃ w h', w ∈ ws ∧ run GG FF (n + 2) 33 [.ref p, .ref q] h = .ok (iv w) h' ∧ Drew h h' p := by
  refine r33v hp ws hw hl ?_ fun r hr h' d => ?_
  · show (match h[q]? with
      | some (.lst xs) => some (Vl.int (xs.length : Nat))
      | some (.dct xs) => some (.int (xs.length : Nat))
      | _ => none) = _
    rw [hq]
    exact len_words ws
  · obtain ⟨_, o, rfl⟩ := d
    show (match (h.set p o)[q]? with
      | some (.lst xs) => match Mi.ixN xs.length (r : Int) with
        | some j => xs[j]?
        | none => none
      | some (.dct kvs) => dget (iv r) kvs
      | _ => none) = _
    rw [List.getElem?_set_ne hpq, hq]
    exact sub_words ws r hr
end
end Law
set_option Elab.async false
set_option linter.all false
set_option maxRecDepth 100000
set_option maxHeartbeats 1000000
namespace Law
open Mi Gf
section
variable {n : Nat} {h : Hh}
theorem r30 {l : Nat} {ws : List Nat} (T : Told l ws) (hb : (basis ws).length ≤ 12) (hw : wfH h.length h = true) : run GG FF (n + 6) 30 [iv l, .tup (ws.map iv)] h = .ok (.tup ((spanF (basis ws).reverse [0]).map iv)) h := by
  refine run_ret (d := f30) rfl rfl ?_
  show evS GG (run GG FF (n + 5)) f30.body [some (iv l), some (.tup (ws.map iv)), none] h = _
  have e1 : bifV .len h [.tup ((basis ws).map iv)] = some (iv (basis ws).length) := len_words _
  have e2 : ∀ (l : List Vl), bifV .tuple h [.lst l] = some (.tup l) := fun l => rfl
  simp only [f30, evS, evE, evA, evF, evW, part1, part0, evC, List.getElem?_cons_zero, List.getElem?_cons_succ, putE, List.set_cons_zero, List.set_cons_succ, tgV, putEs, wipeE, walkC, walkF, bnd_ok', lift_some, bndS_nx, bndS_rt, iv_xor, iv_and, iv_add, iv_axor, iv_aadd, iv_eq, iv_ne, iv_lt, iv_gt, iv_le, tru_bl, int0, int1, int2, r20 T, r13 ws T.lt24, e1, g2, decide_eq_false (show ¬ 12 < (basis ws).length by omega), r16 (basis ws) hb hw, e2]
theorem spanF_len : ∀ (bs acc : List Nat), (spanF bs acc).length = acc.length * 2 ^ bs.length
  | [], acc => by simp [spanF]
  | b :: bs, acc => by
    show (spanF bs (acc ++ acc.map (· ^^^ b))).length = _
    rw [spanF_len bs, List.length_append, List.length_map, List.length_cons, Nat.pow_succ, Nat.add_mul, ← Nat.mul_assoc]
    omega
def lsTurn (cf : CF) (x : Vl) (env : Env) (h : Hh) : R Oc := match tgV (.n 2) x env with
  | some env' => evS GG cf (.set 1 (.fz (.cat (.var 1) (.fz (.comp [3] (.n 3) (.over (.var 1)) .noe (.bin .xor (.var 3) (.var 2))))))) env' h
  | none => .bad
theorem ls_ok {cf : CF} {t : Vl} : ∀ (bs acc : List Nat) (o : Option Vl), acc.length * 2 ^ bs.length ≤ 100000 →
    ∃ o', forL (lsTurn cf) (bs.map iv) [some t, some (.lst (acc.map iv)), o, none] h = .ok (.nx [some t, some (.lst ((spanF bs acc).map iv)), o', none]) h
  | [], acc, o, _ => ⟨o, rfl⟩
  | b :: bs, acc, o, hz => by
    have hz2 : (acc ++ acc.map (· ^^^ b)).length * 2 ^ bs.length ≤ 100000 := by
      rw [List.length_append, List.length_map]
      rw [List.length_cons, Nat.pow_succ] at hz
      have : (acc.length + acc.length) * 2 ^ bs.length = acc.length * (2 ^ bs.length * 2) := by
        rw [Nat.add_mul, ← Nat.mul_assoc]
        omega
      omega
    have h2 : 2 ≤ 2 ^ (b :: bs).length := by
      rw [List.length_cons, Nat.pow_succ]
      have : 1 ≤ 2 ^ bs.length := Nat.one_le_two_pow
      omega
    have hle : acc.length * 2 ≤ 100000 := Nat.le_trans (Nat.mul_le_mul_left acc.length h2) hz
    have big := line_big
    obtain ⟨o', e⟩ := ls_ok (cf := cf) (t := t) bs (acc ++ acc.map (· ^^^ b)) (some (iv b)) hz2
    refine ⟨o', ?_⟩
    have ht : lsTurn cf (iv b) [some t, some (.lst (acc.map iv)), o, none] h = .ok (.nx [some t, some (.lst ((acc ++ acc.map (· ^^^ b)).map iv)), some (iv b), none]) h := by
      unfold lsTurn
      simp only [evS, evE, evA, evF, evW, part1, part0, evC, List.getElem?_cons_zero, List.getElem?_cons_succ, putE, List.set_cons_zero, List.set_cons_succ, tgV, putEs, wipeE, walkC, walkF, bnd_ok', lift_some, bndS_nx, bndS_rt, iv_xor, iv_and, iv_add, iv_axor, iv_aadd, iv_eq, iv_ne, iv_lt, iv_gt, iv_le, tru_bl, int0, int1, int2]
      rw [compL_map (k := fun a => iv (a ^^^ b)) (by simp; omega) ?hk]
      case hk =>
        intro a _
        simp only [evS, evE, evA, evF, evW, part1, part0, evC, List.getElem?_cons_zero, List.getElem?_cons_succ, putE, List.set_cons_zero, List.set_cons_succ, tgV, putEs, wipeE, walkC, walkF, bnd_ok', lift_some, bndS_nx, bndS_rt, iv_xor, iv_and, iv_add, iv_axor, iv_aadd, iv_eq, iv_ne, iv_lt, iv_gt, iv_le, tru_bl, int0, int1, int2]
      have hsz : (acc.map iv).length + (acc.map fun a => iv (a ^^^ b)).length ≤ line := by
        simp
        omega
      simp only [evS, evE, evA, evF, evW, part1, part0, evC, List.getElem?_cons_zero, List.getElem?_cons_succ, putE, List.set_cons_zero, List.set_cons_succ, tgV, putEs, wipeE, walkC, walkF, bnd_ok', lift_some, bndS_nx, bndS_rt, iv_xor, iv_and, iv_add, iv_axor, iv_aadd, iv_eq, iv_ne, iv_lt, iv_gt, iv_le, tru_bl, int0, int1, int2, List.nil_append, catV, lstOf, if_pos hsz]
      rw [List.map_append, List.map_map]
      rfl
    rw [List.map_cons]
    show (match lsTurn cf (iv b) [some t, some (.lst (acc.map iv)), o, none] h with
      | .ok (.nx env1) h1 => forL (lsTurn cf) (bs.map iv) env1 h1
      | .ok (.ct env1) h1 => forL (lsTurn cf) (bs.map iv) env1 h1
      | .ok (.bk env1) h1 => .ok (.nx env1) h1
      | .ok (.rt v) h1 => .ok (.rt v) h1
      | .exc c p h1 => .exc c p h1
      | .bad => .bad) = _
    rw [ht]
    exact e
theorem r40 (bs : List Nat) (hl : bs.length ≤ 12) : run GG FF (n + 1) 40 [.tup (bs.map iv)] h = .ok (.lst ((sortN (spanF bs [0])).map iv)) h := by
  refine run_ret (d := f40) rfl rfl ?_
  show evS GG (run GG FF n) f40.body [some (.tup (bs.map iv)), none, none, none] h = _
  have h0 : decide ([iv 0].length ≤ line) = true := decide_eq_true (by show 1 ≤ line; decide)
  have hz : ([0] : List Nat).length * 2 ^ bs.length ≤ 100000 := by
    rw [List.length_singleton, Nat.one_mul]
    have := Nat.pow_le_pow_right (show 0 < 2 by decide) hl
    have : 2 ^ 12 = 4096 := by decide
    omega
  obtain ⟨o', e⟩ := ls_ok (h := h) (cf := run GG FF n) (t := .tup (bs.map iv)) bs [0] none hz
  have f : f40.body = .seq (.set 1 (.fz (.disp (.acons (.int 0) .anil)))) (.seq (.fors (.n 2) (.over (.var 0)) (.set 1 (.fz (.cat (.var 1) (.fz (.comp [3] (.n 3) (.over (.var 1)) .noe (.bin .xor (.var 3) (.var 2)))))))) (.ret (.fz (.srt false (.var 1))))) := rfl
  have fo : ∀ env h, evS GG (run GG FF n) (.fors (.n 2) (.over (.var 0)) (.set 1 (.fz (.cat (.var 1) (.fz (.comp [3] (.n 3) (.over (.var 1)) .noe (.bin .xor (.var 3) (.var 2)))))))) env h = bnd (evW GG (run GG FF n) (.over (.var 0)) env h) fun w h => walkF (lsTurn (run GG FF n)) w env h := fun env h => rfl
  have se : ∀ a b env h, evS GG (run GG FF n) (.seq a b) env h = bndS (evS GG (run GG FF n) a env h) fun env h => evS GG (run GG FF n) b env h := fun _ _ _ _ => rfl
  have s1 : evS GG (run GG FF n) (.set 1 (.fz (.disp (.acons (.int 0) .anil)))) [some (.tup (bs.map iv)), none, none, none] h = .ok (.nx [some (.tup (bs.map iv)), some (.lst ([0].map iv)), none, none]) h := by
    simp only [evS, evE, evA, evF, evW, part1, part0, evC, List.getElem?_cons_zero, List.getElem?_cons_succ, putE, List.set_cons_zero, List.set_cons_succ, tgV, putEs, wipeE, walkC, walkF, bnd_ok', lift_some, bndS_nx, bndS_rt, iv_xor, iv_and, iv_add, iv_axor, iv_aadd, iv_eq, iv_ne, iv_lt, iv_gt, iv_le, tru_bl, int0, int1, int2, h0]
    rfl
  have s2 : evW GG (run GG FF n) (.over (.var 0)) [some (.tup (bs.map iv)), some (.lst ([0].map iv)), none, none] h = .ok (.its (bs.map iv)) h := by
    simp only [evS, evE, evA, evF, evW, part1, part0, evC, List.getElem?_cons_zero, List.getElem?_cons_succ, putE, List.set_cons_zero, List.set_cons_succ, tgV, putEs, wipeE, walkC, walkF, bnd_ok', lift_some, bndS_nx, bndS_rt, iv_xor, iv_and, iv_add, iv_axor, iv_aadd, iv_eq, iv_ne, iv_lt, iv_gt, iv_le, tru_bl, int0, int1, int2]
  rw [f, se, s1, bndS_nx, se, fo, s2, bnd_ok']
  show bndS (forL (lsTurn (run GG FF n)) (bs.map iv) _ _) _ = _
  rw [e, bndS_nx]
  simp only [evS, evE, evA, evF, evW, part1, part0, evC, List.getElem?_cons_zero, List.getElem?_cons_succ, putE, List.set_cons_zero, List.set_cons_succ, tgV, putEs, wipeE, walkC, walkF, bnd_ok', lift_some, bndS_nx, bndS_rt, iv_xor, iv_and, iv_add, iv_axor, iv_aadd, iv_eq, iv_ne, iv_lt, iv_gt, iv_le, tru_bl, int0, int1, int2, lstOf, ints_iv, srt_asc]
theorem log_lt {bs : List Nat} (R : Red bs) {a b : Nat} (ha : a ∈ bs) (hb : b ∈ bs) (hab : a > b) : b.log2 < a.log2 := by
  have h0 : a ≠ 0 := R.pos a ha
  have h1 : b.log2 ≤ a.log2 := (Nat.le_log2 h0).mpr (Nat.le_trans (Nat.log2_self_le (R.pos b hb)) (Nat.le_of_lt hab))
  have h2 : b.log2 ≠ a.log2 := fun z => by
    have q := tb_head h0
    rw [← z] at q
    have := R.one b hb a ha q
    omega
  omega
theorem sorted_eq : ∀ {bs cs : List Nat}, bs.Pairwise (· ≤ ·) → cs.Pairwise (· ≤ ·) → bs.Perm cs → bs = cs
  | [], cs, _, _, h => by rw [List.nil_perm.mp h]
  | b :: bs, [], _, _, h => by cases List.perm_nil.mp h
  | b :: bs, c :: cs, p, q, h => by
    have hb : c ≤ b := by
      rcases List.mem_cons.mp (h.mem_iff.mp (List.mem_cons_self (a := b) (l := bs))) with z | z
      · omega
      · exact (List.pairwise_cons.mp q).1 b z
    have hc : b ≤ c := by
      rcases List.mem_cons.mp (h.mem_iff.mpr (List.mem_cons_self (a := c) (l := cs))) with z | z
      · omega
      · exact (List.pairwise_cons.mp p).1 c z
    have e : b = c := by omega
    subst e
    rw [sorted_eq (List.pairwise_cons.mp p).2 (List.pairwise_cons.mp q).2 (List.perm_cons b |>.mp h)]
theorem span_same {bs : List Nat} (B : Bas bs) : spanF bs.reverse [0] = sortN (spanF bs [0]) := by
  have asc : (spanL bs.reverse [0]).Pairwise (· < ·) := by
    refine spanL_asc bs.reverse (ds := []) (by rw [List.append_nil]; exact B.red.perm (List.reverse_perm _)) ?_ (fun a ha => by rw [List.mem_singleton.mp ha]; rfl) (List.pairwise_singleton _ _)
    rw [List.reverse_nil, List.nil_append, List.pairwise_reverse]
    refine List.Pairwise.imp_of_mem ?_ B.ord
    intro a b ha hb hab
    exact log_lt B.red ha hb hab
  show spanL bs.reverse [0] = sortN (spanL bs [0])
  refine sorted_eq (asc.imp fun h => Nat.le_of_lt h) (sortN_sorted _) ?_
  exact (spanL_perm (List.reverse_perm _) (List.Perm.refl _)).trans (sortN_perm _).symm
end
end Law
set_option Elab.async false
set_option linter.all false
set_option maxRecDepth 100000
set_option maxHeartbeats 1000000
namespace Law
open Mi Gf
section
variable {n : Nat} {h : Hh}
theorem iv_pow {a b : Nat} (hs : (a.log2 + 1) * b < 100000) : binV .pow h (iv a) (iv b) = some (iv (a ^ b)) := by
  show (match (if (a.log2 + 1) * b < 100000 then some ((a : Int) ^ b) else none) with
    | some k => some (Vl.int k)
    | none => none) = _
  rw [if_pos hs]
  show some (Vl.int ((a : Int) ^ b)) = some (Vl.int ((a ^ b : Nat) : Int))
  rw [Int.natCast_pow]
theorem abs_iv (c : Int) : bifV .abs h [.int c] = some (iv c.natAbs) := by
  show some (Vl.int (if c < 0 then -c else c)) = some (Vl.int (c.natAbs : Int))
  congr 2
  split <;> omega
theorem cut_iv (a b : Nat) : ∃ k : Nat, (match binV .sub h (iv a) (iv b) with
    | some x => bifV .max2 h [iv 0, x]
    | none => none) = some (iv k) := by
  refine ⟨a - b, ?_⟩
  show some (Vl.int (if ((a : Int) - b) > (0 : Int) then (a : Int) - b else 0)) = some (Vl.int ((a - b : Nat) : Int))
  congr 2
  split <;> omega
theorem int_bl (b : Bool) : ∃ k : Nat, bifV .int h [.bl b] = some (iv k) := by
  cases b with
  | true => exact ⟨1, rfl⟩
  | false => exact ⟨0, rfl⟩
theorem scr_sub {ns : List Int} {s : Nat} (hs : s < ns.length) : subV h (.scr (ns.map .int)) (iv s) = some (.int ns[s]) := by
  show (match Mi.ixN (ns.map Vl.int).length (s : Int) with
    | some j => (ns.map Vl.int)[j]?
    | none => none) = _
  have : Mi.ixN (ns.map Vl.int).length (s : Int) = some s := by
    show (if s < (ns.map Vl.int).length then some s else none) = _
    rw [if_pos (by rw [List.length_map]; exact hs)]
  rw [this]
  show (ns.map Vl.int)[s]? = _
  rw [List.getElem?_map, List.getElem?_eq_getElem hs]
  rfl
theorem scr_len (ns : List Int) : bifV .len h [.scr (ns.map .int)] = some (iv ns.length) := by
  show some (Vl.int ((ns.map Vl.int).length : Nat)) = _
  rw [List.length_map]
  rfl
theorem pail_at (a b c : Nat) : Pail (h ++ [.lst [iv a, iv b, iv c]]) h.length := ⟨a, b, c, get_last _ _⟩
theorem r31a {A1 A2 A3 A4 A5 A6 A7 A8 A9 B1 B2 B3 : Nat} (l1 : Vl.int 167 = iv A1) (l2 : Vl.int 59 = iv A2) (l3 : Vl.int 10 = iv A3) (l4 : Vl.int 57 = iv A4) (l5 : Vl.int 7 = iv A5) (l6 : Vl.int 2305843009213693921 = iv A6) (l7 : Vl.int 61 = iv A7) (l8 : Vl.int 6473 = iv A8) (l9 : Vl.int 31 = iv A9) (m1 : Vl.int 89 = iv B1) (m2 : Vl.int 16 = iv B2) (m3 : Vl.int 2305843009213693951 = iv B3)
    (q1 : A1 < 18446744073709551616) (q3 : 0 < A3) (q4 : (A3.log2 + 1) * A4 < 100000) (q5 : ((A3 ^ A4).log2 + 1) * A5 < 100000) (q6 : 0 < A6) (q7 : A7 < 18446744073709551616) (q8 : A8 < 18446744073709551616) (q9 : A9 < 18446744073709551616) (p2 : (A3.log2 + 1) * B2 < 100000) (p3 : 0 < B3)
    {ns : List Int} (s : Nat) : ∃ g t, run GG FF (n + 1) 31 [.scr (ns.map .int), iv s] h = .ok (.ref h.length) (h ++ [.lst [iv g, iv t, iv 0]]) := by
  have q2 : 0 < (A3 ^ A4) ^ A5 := by
    exact Nat.pow_pos (Nat.pow_pos q3)
  have f : f31.body = .seq (.set 2 (.ite (.cmp .lt (.var 1) (.bif .len (.acons (.var 0) .anil))) (.bif .int (.acons (.sub (.var 0) (.var 1)) .anil)) (.bin .add (.bin .mul (.int 167) (.var 1)) (.int 59)))) (.seq (.set 3 (.bin .mod (.bif .abs (.acons (.var 2) .anil)) (.bin .pow (.bin .pow (.int 10) (.int 57)) (.int 7)))) (.seq (.set 4 (.bif .int (.acons (.bin .add (.bin .add (.bin .add (.bin .mul (.bin .mod (.var 3) (.int 2305843009213693921)) (.int 61)) (.bin .mul (.int 6473) (.var 1))) (.bin .mul (.int 31) (.bif .int (.acons (.cmp .lt (.var 2) (.int 0)) .anil)))) (.int 89)) .anil))) (.ret (.th (.disp (.acons (.bif .max2 (.acons (.int 0) (.acons (.bin .sub (.var 3) (.bin .pow (.int 10) (.int 16))) .anil))) (.acons (.bin .mod (.var 4) (.int 2305843009213693951)) (.acons (.int 0) .anil)))))))) := rfl
  have se : ∀ a b env h, evS GG (run GG FF n) (.seq a b) env h = bndS (evS GG (run GG FF n) a env h) fun env h => evS GG (run GG FF n) b env h := fun _ _ _ _ => rfl
  have s1 : ∃ c : Int, evS GG (run GG FF n) (.set 2 (.ite (.cmp .lt (.var 1) (.bif .len (.acons (.var 0) .anil))) (.bif .int (.acons (.sub (.var 0) (.var 1)) .anil)) (.bin .add (.bin .mul (.int 167) (.var 1)) (.int 59)))) [some (.scr (ns.map .int)), some (iv s), none, none, none] h = .ok (.nx [some (.scr (ns.map .int)), some (iv s), some (.int c), none, none]) h := by
    by_cases hs : s < ns.length
    · refine ⟨ns[s], ?_⟩
      have e3 : bifV .int h [.int ns[s]] = some (.int ns[s]) := rfl
      simp only [evS, evE, evA, evF, evW, part1, part0, evC, List.getElem?_cons_zero, List.getElem?_cons_succ, putE, List.set_cons_zero, List.set_cons_succ, tgV, putEs, wipeE, walkC, walkF, bnd_ok', lift_some, bndS_nx, bndS_rt, iv_xor, iv_and, iv_add, iv_axor, iv_aadd, iv_eq, iv_ne, iv_lt, iv_gt, iv_le, tru_bl, int0, int1, int2, scr_len, decide_eq_true hs, scr_sub hs, e3]
    · refine ⟨((A1 * s + A2 : Nat) : Int), ?_⟩
      simp only [evS, evE, evA, evF, evW, part1, part0, evC, List.getElem?_cons_zero, List.getElem?_cons_succ, putE, List.set_cons_zero, List.set_cons_succ, tgV, putEs, wipeE, walkC, walkF, bnd_ok', lift_some, bndS_nx, bndS_rt, iv_xor, iv_and, iv_add, iv_axor, iv_aadd, iv_eq, iv_ne, iv_lt, iv_gt, iv_le, tru_bl, int0, int1, int2, scr_len, decide_eq_false hs, l1, l2, iv_mul (Or.inl q1)]
      rfl
  obtain ⟨c, s1⟩ := s1
  have s2 : ∃ g : Nat, evS GG (run GG FF n) (.set 3 (.bin .mod (.bif .abs (.acons (.var 2) .anil)) (.bin .pow (.bin .pow (.int 10) (.int 57)) (.int 7)))) [some (.scr (ns.map .int)), some (iv s), some (.int c), none, none] h = .ok (.nx [some (.scr (ns.map .int)), some (iv s), some (.int c), some (iv g), none]) h := by
    refine ⟨c.natAbs % (A3 ^ A4) ^ A5, ?_⟩
    simp only [evS, evE, evA, evF, evW, part1, part0, evC, List.getElem?_cons_zero, List.getElem?_cons_succ, putE, List.set_cons_zero, List.set_cons_succ, tgV, putEs, wipeE, walkC, walkF, bnd_ok', lift_some, bndS_nx, bndS_rt, iv_xor, iv_and, iv_add, iv_axor, iv_aadd, iv_eq, iv_ne, iv_lt, iv_gt, iv_le, tru_bl, int0, int1, int2, abs_iv, l3, l4, l5, iv_pow q4, iv_pow q5, iv_mod q2]
  obtain ⟨g, s2⟩ := s2
  have s3 : ∃ t : Nat, evS GG (run GG FF n) (.set 4 (.bif .int (.acons (.bin .add (.bin .add (.bin .add (.bin .mul (.bin .mod (.var 3) (.int 2305843009213693921)) (.int 61)) (.bin .mul (.int 6473) (.var 1))) (.bin .mul (.int 31) (.bif .int (.acons (.cmp .lt (.var 2) (.int 0)) .anil)))) (.int 89)) .anil))) [some (.scr (ns.map .int)), some (iv s), some (.int c), some (iv g), none] h = .ok (.nx [some (.scr (ns.map .int)), some (iv s), some (.int c), some (iv g), some (iv t)]) h := by
    obtain ⟨k, hk⟩ := int_bl (h := h) (decide (c < 0))
    have hc : cmpV .lt h (.int c) (iv 0) = some (decide (c < 0)) := rfl
    refine ⟨g % A6 * A7 + A8 * s + A9 * k + B1, ?_⟩
    simp only [evS, evE, evA, evF, evW, part1, part0, evC, List.getElem?_cons_zero, List.getElem?_cons_succ, putE, List.set_cons_zero, List.set_cons_succ, tgV, putEs, wipeE, walkC, walkF, bnd_ok', lift_some, bndS_nx, bndS_rt, iv_xor, iv_and, iv_add, iv_axor, iv_aadd, iv_eq, iv_ne, iv_lt, iv_gt, iv_le, tru_bl, int0, int1, int2, l6, l7, l8, l9, m1, iv_mod q6, iv_mul (Or.inr q7), iv_mul (Or.inl q8), hc, hk, iv_mul (Or.inl q9), bif_int]
  obtain ⟨t, s3⟩ := s3
  obtain ⟨k, hk⟩ := cut_iv (h := h) g (A3 ^ B2)
  refine ⟨k, t % B3, ?_⟩
  have e : evS GG (run GG FF n) f31.body [some (.scr (ns.map .int)), some (iv s), none, none, none] h = .ok (.rt (.ref h.length)) (h ++ [.lst [iv k, iv (t % B3), iv 0]]) := by
    have h0 : decide ([iv k, iv (t % B3), iv 0].length ≤ line) = true := decide_eq_true (by show 3 ≤ line; decide)
    cases hb : binV .sub h (iv g) (iv (A3 ^ B2)) with
    | none =>
      rw [hb] at hk
      cases hk
    | some x =>
      rw [hb] at hk
      rw [f, se, s1, bndS_nx, se, s2, bndS_nx, se, s3, bndS_nx]
      simp only [evS, evE, evA, evF, evW, part1, part0, evC, List.getElem?_cons_zero, List.getElem?_cons_succ, putE, List.set_cons_zero, List.set_cons_succ, tgV, putEs, wipeE, walkC, walkF, bnd_ok', lift_some, bndS_nx, bndS_rt, iv_xor, iv_and, iv_add, iv_axor, iv_aadd, iv_eq, iv_ne, iv_lt, iv_gt, iv_le, tru_bl, int0, int1, int2, l3, m2, m3, iv_pow p2, hb, hk, iv_mod p3, h0]
  rw [run_eq (d := f31) rfl rfl]
  show endF f31.frz h.length (evS GG (run GG FF n) f31.body [some (.scr (ns.map .int)), some (iv s), none, none, none] h) = _
  rw [e]
  rfl
theorem r31 (ns : List Int) (s : Nat) : ∃ h', run GG FF (n + 1) 31 [.scr (ns.map .int), iv s] h = .ok (.ref h.length) h' ∧ Pail h' h.length ∧ ∃ o, h' = h ++ [o] := by
  obtain ⟨g, t, e⟩ := r31a (n := n) (h := h) (A1 := 167) (A2 := 59) (A3 := 10) (A4 := 57) (A5 := 7) (A6 := 2305843009213693921) (A7 := 61) (A8 := 6473) (A9 := 31) (B1 := 89) (B2 := 16) (B3 := 2305843009213693951) rfl rfl rfl rfl rfl rfl rfl rfl rfl rfl rfl rfl (by decide) (by decide) (by decide +kernel) (by decide +kernel) (by decide) (by decide) (by decide) (by decide) (by decide +kernel) (by decide) (ns := ns) s
  exact ⟨_, e, pail_at g t 0, _, rfl⟩
end
end Law
set_option Elab.async false
set_option linter.all false
set_option maxRecDepth 100000
set_option maxHeartbeats 1000000
namespace Law
open Mi Gf
theorem forL_k {turn : Vl → Env → Hh → R Oc} (I : Nat → Env → Hh → Prop) (m : Nat) (k : ∀ x j env h, j < m → I j env h → ∃ env' h', turn x env h = .ok (.nx env') h' ∧ I (j + 1) env' h') : ∀ {xs : List Vl} {j : Nat} {env : Env} {h : Hh}, I j env h → j + xs.length ≤ m → ∃ env' h', forL turn xs env h = .ok (.nx env') h' ∧ I (j + xs.length) env' h'
  | [], j, env, h, i, _ => ⟨env, h, rfl, i⟩
  | x :: xs, j, env, h, i, hm => by
    rw [List.length_cons] at hm
    obtain ⟨env1, h1, e1, i1⟩ := k x j env h (by omega) i
    obtain ⟨env2, h2, e2, i2⟩ := forL_k I m k i1 (show (j + 1) + xs.length ≤ m by omega)
    refine ⟨env2, h2, ?_, ?_⟩
    · show (match turn x env h with
        | .ok (.nx env1) h1 => forL turn xs env1 h1
        | .ok (.ct env1) h1 => forL turn xs env1 h1
        | .ok (.bk env1) h1 => .ok (.nx env1) h1
        | .ok (.rt v) h1 => .ok (.rt v) h1
        | .exc c p h1 => .exc c p h1
        | .bad => .bad) = _
      rw [e1]
      exact e2
    · rw [List.length_cons, show j + (xs.length + 1) = j + 1 + xs.length by omega]
      exact i2
def Pure (h : Hh) : Prop := ∀ o ∈ h, ∃ ws : List Nat, o = .lst (ws.map iv)
theorem Pure.wf (n0 : Nat) : ∀ {h : Hh}, Pure h → wfH n0 h = true
  | [], _ => rfl
  | o :: r, p => by
    obtain ⟨ws, e⟩ := p o List.mem_cons_self
    have := Pure.wf n0 (h := r) fun o ho => p o (List.mem_cons_of_mem _ ho)
    show (match wfO n0 o with
      | true => wfH n0 r
      | false => false) = _
    rw [e, show wfO n0 (.lst (ws.map iv)) = true from wfL_iv n0 ws]
    exact this
theorem Pure.drew {h h' : Hh} {p : Nat} (a : Pure h) (d : Drew h h' p) : Pure h' := by
  obtain ⟨⟨g, s, c, e⟩, o, rfl⟩ := d
  intro x hx
  rcases List.mem_or_eq_of_mem_set hx with z | z
  · exact a x z
  · have hl := (List.getElem?_eq_some_iff.mp e).1
    rw [List.length_set] at hl
    rw [List.getElem?_set_self hl] at e
    injection e with e
    exact ⟨[g, s, c], by rw [z, e]; rfl⟩
theorem Pure.app {h : Hh} (a : Pure h) (ws : List Nat) : Pure (h ++ [.lst (ws.map iv)]) := by
  intro x hx
  rcases List.mem_append.mp hx with z | z
  · exact a x z
  · exact ⟨ws, List.mem_singleton.mp z⟩
theorem Pail.lt {h : Hh} {p : Nat} (hp : Pail h p) : p < h.length := by
  obtain ⟨_, _, _, e⟩ := hp
  exact (List.getElem?_eq_some_iff.mp e).1
def Beside (h0 : Hh) (p : Nat) (ws : List Nat) (h' : Hh) : Prop := ∃ h1, Drew h0 h1 p ∧ h' = h1 ++ [.lst (ws.map iv)]
section
variable {h0 h' h'' : Hh} {p : Nat} {ws : List Nat}
theorem Beside.at (b : Beside h0 p ws h') : h'[h0.length]? = some (.lst (ws.map iv)) := by
  obtain ⟨h1, d, rfl⟩ := b
  rw [← d.len]
  exact get_last _ _
theorem Beside.pail (b : Beside h0 p ws h') : Pail h' p := by
  obtain ⟨h1, d, rfl⟩ := b
  obtain ⟨g, s, c, e⟩ := d.1
  exact ⟨g, s, c, by rw [List.getElem?_append_left (Pail.lt d.1)]; exact e⟩
theorem Beside.ne (b : Beside h0 p ws h') : p ≠ h0.length := by
  obtain ⟨h1, d, rfl⟩ := b
  have := Pail.lt d.1
  rw [d.len] at this
  omega
theorem Beside.draw (b : Beside h0 p ws h') (d : Drew h' h'' p) : Beside h0 p ws h'' := by
  obtain ⟨h1, d1, rfl⟩ := b
  obtain ⟨q, o, rfl⟩ := d
  have hl := Pail.lt d1.1
  have e : (h1 ++ [Ob.lst (ws.map iv)]).set p o = h1.set p o ++ [.lst (ws.map iv)] := List.set_append_left _ _ hl
  rw [e] at q ⊢
  refine ⟨h1.set p o, d1.trans ⟨?_, o, rfl⟩, rfl⟩
  obtain ⟨g, s, c, e2⟩ := q
  rw [List.getElem?_append_left (by rw [List.length_set]; exact hl)] at e2
  exact ⟨g, s, c, e2⟩
theorem Beside.app (b : Beside h0 p ws h') (hz : ws.length < line) (w : Nat) : ∃ h'', mthV .append h' (.ref h0.length) [iv w] = .ok .non h'' ∧ Beside h0 p (ws ++ [w]) h'' := by
  have ha := b.at
  obtain ⟨h1, d, rfl⟩ := b
  refine ⟨h1 ++ [.lst ((ws ++ [w]).map iv)], ?_, h1, d, rfl⟩
  show (match (h1 ++ [Ob.lst (ws.map iv)])[h0.length]? with
    | some (.lst l) => if l.length < line then R.ok Vl.non ((h1 ++ [Ob.lst (ws.map iv)]).set h0.length (.lst (l ++ [iv w]))) else .bad
    | _ => .bad) = _
  rw [ha]
  dsimp only
  rw [if_pos (by rw [List.length_map]; exact hz), ← d.len, set_last, List.map_append]
  rfl
theorem Beside.len (b : Beside h0 p ws h') : bifV .len h' [.ref h0.length] = some (iv ws.length) := by
  show (match h'[h0.length]? with
    | some (.lst xs) => some (Vl.int (xs.length : Nat))
    | some (.dct xs) => some (.int (xs.length : Nat))
    | _ => none) = _
  rw [b.at]
  exact len_words ws
theorem Beside.rcv (b : Beside h0 p ws h') : rcv .append h' (.ref h0.length) = true := by
  show (match h'[h0.length]? with
    | some (.lst _) => true
    | _ => false) = true
  rw [b.at]
theorem Beside.tuple (b : Beside h0 p ws h') : bifV .tuple h' [.ref h0.length] = some (.tup (ws.map iv)) := by
  show (match (match h'[h0.length]? with
    | some (.lst xs) => some xs
    | _ => none) with
    | some l => some (Vl.tup l)
    | none => none) = _
  rw [b.at]
theorem Beside.fin (b : Beside h0 p ws h') (hp : Pure h0) {us : List Nat} : ∃ h1, endF true h0.length (.ok (.rt (.tup (us.map iv))) h') = .ok (.tup (us.map iv)) h1 ∧ Drew h0 h1 p := by
  obtain ⟨h1, d, rfl⟩ := b
  refine ⟨h1, ?_, d⟩
  have hd : decide ((h1 ++ [Ob.lst (ws.map iv)]).length ≤ h0.length) = false := by
    rw [decide_eq_false]
    rw [List.length_append, List.length_singleton, d.len]
    omega
  have hf : frV (h1 ++ [.lst (ws.map iv)]) h0.length 30 (.tup (us.map iv)) = some (.tup (us.map iv)) := by
    show (match mapO (frV (h1 ++ [.lst (ws.map iv)]) h0.length 29) (us.map iv) with
      | some l => some (Vl.tup l)
      | none => none) = _
    rw [mapO_iv _ _ 28]
  have ht : (h1 ++ [Ob.lst (ws.map iv)]).take h0.length = h1 := by
    rw [← d.len]
    exact take_app _ _
  unfold endF Mi.fin
  dsimp only
  rw [hd]
  dsimp only
  rw [hf]
  dsimp only
  rw [show wfV h0.length (.tup (us.map iv)) = true from by simp only [wfV, wfL_iv], ht, (hp.drew d).wf]
end
end Law
set_option Elab.async false
set_option linter.all false
set_option maxRecDepth 100000
set_option maxHeartbeats 1000000
namespace Law
open Mi Gf
section
variable {n : Nat} {h : Hh}
def drTurn (cf : CF) (x : Vl) (env : Env) (h : Hh) : R Oc := match tgV (.n 4) x env with
  | some env' => evS GG cf (.ifs (.and (.cmp .gt (.bif .len (.acons (.var 3) .anil)) (.int 1)) (.cmp .eq (.call 32 (.acons (.var 0) (.acons (.int 3) .anil))) (.int 0))) (.ex (.mth .append (.var 3) (.acons (.bin .xor (.call 33 (.acons (.var 0) (.acons (.var 3) .anil))) (.call 33 (.acons (.var 0) (.acons (.var 3) .anil)))) .anil))) (.ex (.mth .append (.var 3) (.acons (.call 32 (.acons (.var 0) (.acons (.bin .shl (.int 1) (.var 1)) .anil))) .anil)))) env' h
  | none => .bad
theorem dr_turn {h0 h' : Hh} {p l : Nat} {ws : List Nat} {x m : Vl} {o : Option Vl} (hl : l ≤ 24) (b : Beside h0 p ws h') (hw : ∀ w ∈ ws, w < 2 ^ l) (hz : ws.length < 1000) :
    ∃ w h'', w < 2 ^ l ∧ drTurn (run GG FF (n + 2)) x [some (.ref p), some (iv l), some m, some (.ref h0.length), o] h' = .ok (.nx [some (.ref p), some (iv l), some m, some (.ref h0.length), some x]) h'' ∧ Beside h0 p (ws ++ [w]) h'' := by
  have big := line_big
  have i3 : Vl.int 3 = iv 3 := rfl
  have hlog : (2 ^ l).log2 < 9000 := by
    rw [Nat.log2_two_pow]
    omega
  -- a plain drawing
  have plain : ∀ {g1 : Hh}, Beside h0 p ws g1 → ∃ w g2 g3, w < 2 ^ l ∧ run GG FF (n + 2) 32 [.ref p, iv (2 ^ l)] g1 = .ok (iv w) g2 ∧ mthV .append g2 (.ref h0.length) [iv w] = .ok .non g3 ∧ Beside h0 p (ws ++ [w]) g3 := by
    intro g1 b1
    obtain ⟨w, g2, hw2, e2, d2⟩ := r32 (n := n + 1) b1.pail (Nat.two_pow_pos l) hlog
    obtain ⟨g3, e3, b3⟩ := (b1.draw d2).app (by omega) w
    exact ⟨w, g2, g3, hw2, e2, e3, b3⟩
  unfold drTurn
  by_cases h1 : 1 < ws.length
  · obtain ⟨r, g1, hr, e1, d1⟩ := r32 (n := n + 1) (t := 3) b.pail (by decide) (by decide)
    have b1 := b.draw d1
    by_cases hr0 : r = 0
    · subst hr0
      have hne : ws ≠ [] := by
        intro z
        subst z
        simp at h1
      obtain ⟨u, g2, hu, e2, d2⟩ := r33r (n := n) b1.pail ws hne (by omega) b1.at b1.ne
      have b2 := b1.draw d2
      obtain ⟨v, g3, hv, e3, d3⟩ := r33r (n := n) b2.pail ws hne (by omega) b2.at b2.ne
      have b3 := b2.draw d3
      obtain ⟨g4, e4, b4⟩ := b3.app (by omega) (u ^^^ v)
      refine ⟨u ^^^ v, g4, Nat.xor_lt_two_pow (hw u hu) (hw v hv), ?_, b4⟩
      simp only [evS, evE, evA, evF, evW, part1, part0, evC, List.getElem?_cons_zero, List.getElem?_cons_succ, putE, List.set_cons_zero, List.set_cons_succ, tgV, putEs, wipeE, walkC, walkF, bnd_ok', lift_some, bndS_nx, bndS_rt, iv_xor, iv_and, iv_add, iv_axor, iv_aadd, iv_eq, iv_ne, iv_lt, iv_gt, iv_le, tru_bl, int0, int1, int2, b.len, b.rcv, decide_eq_true h1, i3, e1, b1.rcv, decide_true, e2, e3, e4]
    · obtain ⟨w, g2, g3, hw2, e2, e3, b3⟩ := plain b1
      refine ⟨w, g3, hw2, ?_, b3⟩
      simp only [evS, evE, evA, evF, evW, part1, part0, evC, List.getElem?_cons_zero, List.getElem?_cons_succ, putE, List.set_cons_zero, List.set_cons_succ, tgV, putEs, wipeE, walkC, walkF, bnd_ok', lift_some, bndS_nx, bndS_rt, iv_xor, iv_and, iv_add, iv_axor, iv_aadd, iv_eq, iv_ne, iv_lt, iv_gt, iv_le, tru_bl, int0, int1, int2, b.len, b.rcv, decide_eq_true h1, i3, e1, b1.rcv, decide_eq_false hr0, iv_shl (show l ≤ 1000 by omega), e2, e3]
  · obtain ⟨w, g2, g3, hw2, e2, e3, b3⟩ := plain b
    refine ⟨w, g3, hw2, ?_, b3⟩
    simp only [evS, evE, evA, evF, evW, part1, part0, evC, List.getElem?_cons_zero, List.getElem?_cons_succ, putE, List.set_cons_zero, List.set_cons_succ, tgV, putEs, wipeE, walkC, walkF, bnd_ok', lift_some, bndS_nx, bndS_rt, iv_xor, iv_and, iv_add, iv_axor, iv_aadd, iv_eq, iv_ne, iv_lt, iv_gt, iv_le, tru_bl, int0, int1, int2, b.len, b.rcv, decide_eq_false h1, iv_shl (show l ≤ 1000 by omega), e2, e3]
theorem r41 {p l m : Nat} (hp : Pail h p) (hq : Pure h) (hl : l ≤ 24) (hm : m ≤ 900) : ∃ (ws : List Nat) (h' : Hh), ws.length = m ∧ (∀ w ∈ ws, w < 2 ^ l) ∧ run GG FF (n + 3) 41 [.ref p, iv l, iv m] h = .ok (.tup (ws.map iv)) h' ∧ Drew h h' p := by
  have f : f41.body = .seq (.set 3 (.th (.disp .anil))) (.seq (.fors (.n 4) (.range (.acons (.var 2) .anil)) (.ifs (.and (.cmp .gt (.bif .len (.acons (.var 3) .anil)) (.int 1)) (.cmp .eq (.call 32 (.acons (.var 0) (.acons (.int 3) .anil))) (.int 0))) (.ex (.mth .append (.var 3) (.acons (.bin .xor (.call 33 (.acons (.var 0) (.acons (.var 3) .anil))) (.call 33 (.acons (.var 0) (.acons (.var 3) .anil)))) .anil))) (.ex (.mth .append (.var 3) (.acons (.call 32 (.acons (.var 0) (.acons (.bin .shl (.int 1) (.var 1)) .anil))) .anil))))) (.ret (.bif .tuple (.acons (.var 3) .anil)))) := rfl
  have se : ∀ a b env h, evS GG (run GG FF (n + 2)) (.seq a b) env h = bndS (evS GG (run GG FF (n + 2)) a env h) fun env h => evS GG (run GG FF (n + 2)) b env h := fun _ _ _ _ => rfl
  have fo : ∀ env h, evS GG (run GG FF (n + 2)) (.fors (.n 4) (.range (.acons (.var 2) .anil)) (.ifs (.and (.cmp .gt (.bif .len (.acons (.var 3) .anil)) (.int 1)) (.cmp .eq (.call 32 (.acons (.var 0) (.acons (.int 3) .anil))) (.int 0))) (.ex (.mth .append (.var 3) (.acons (.bin .xor (.call 33 (.acons (.var 0) (.acons (.var 3) .anil))) (.call 33 (.acons (.var 0) (.acons (.var 3) .anil)))) .anil))) (.ex (.mth .append (.var 3) (.acons (.call 32 (.acons (.var 0) (.acons (.bin .shl (.int 1) (.var 1)) .anil))) .anil))))) env h = bnd (evW GG (run GG FF (n + 2)) (.range (.acons (.var 2) .anil)) env h) fun w h => walkF (drTurn (run GG FF (n + 2))) w env h := fun env h => rfl
  have s1 : evS GG (run GG FF (n + 2)) (.set 3 (.th (.disp .anil))) [some (.ref p), some (iv l), some (iv m), none, none] h = .ok (.nx [some (.ref p), some (iv l), some (iv m), some (.ref h.length), none]) (h ++ [.lst (([] : List Nat).map iv)]) := by
    have h0 : decide (([] : List Vl).length ≤ line) = true := decide_eq_true (by show 0 ≤ line; exact Nat.zero_le _)
    simp only [evS, evE, evA, evF, evW, part1, part0, evC, List.getElem?_cons_zero, List.getElem?_cons_succ, putE, List.set_cons_zero, List.set_cons_succ, tgV, putEs, wipeE, walkC, walkF, bnd_ok', lift_some, bndS_nx, bndS_rt, iv_xor, iv_and, iv_add, iv_axor, iv_aadd, iv_eq, iv_ne, iv_lt, iv_gt, iv_le, tru_bl, int0, int1, int2, h0]
    rfl
  have b0 : Beside h p [] (h ++ [.lst (([] : List Nat).map iv)]) := ⟨h, Drew.refl hp, rfl⟩
  have s2 : ∀ q h, evW GG (run GG FF (n + 2)) (.range (.acons (.var 2) .anil)) [some (.ref p), some (iv l), some (iv m), some (.ref q), none] h = .ok (.its ((List.range m).map iv)) h := by
    intro q h
    have e : rangeL ((m : Int)).toNat 0 1 = (List.range m).map iv := by rw [Int.toNat_natCast, range_iv0]
    have hd : decide (((m : Nat) : Int).natAbs < 1000000000) = true := decide_eq_true (by omega)
    simp only [evS, evE, evA, evF, evW, part1, part0, evC, List.getElem?_cons_zero, List.getElem?_cons_succ, putE, List.set_cons_zero, List.set_cons_succ, tgV, putEs, wipeE, walkC, walkF, bnd_ok', lift_some, bndS_nx, bndS_rt, iv_xor, iv_and, iv_add, iv_axor, iv_aadd, iv_eq, iv_ne, iv_lt, iv_gt, iv_le, tru_bl, int0, int1, int2]
    rw [show iv m = Vl.int (m : Nat) from rfl]
    simp only [hd, e, evS, evE, evA, evF, evW, part1, part0, evC, List.getElem?_cons_zero, List.getElem?_cons_succ, putE, List.set_cons_zero, List.set_cons_succ, tgV, putEs, wipeE, walkC, walkF, bnd_ok', lift_some, bndS_nx, bndS_rt, iv_xor, iv_and, iv_add, iv_axor, iv_aadd, iv_eq, iv_ne, iv_lt, iv_gt, iv_le, tru_bl, int0, int1, int2]
  obtain ⟨env', h', e, ws, o, rfl, b, hw, hn⟩ := forL_k (turn := drTurn (run GG FF (n + 2))) (fun j env h' => ∃ (ws : List Nat) (o : Option Vl), env = [some (.ref p), some (iv l), some (iv m), some (.ref h.length), o] ∧ Beside h p ws h' ∧ (∀ w ∈ ws, w < 2 ^ l) ∧ ws.length = j) m (fun x j env h1 hj i => by
    obtain ⟨ws, o, rfl, b, hw, hn⟩ := i
    obtain ⟨w, h2, hw2, e2, b2⟩ := dr_turn (n := n) (x := x) (m := iv m) (o := o) hl b hw (by omega)
    refine ⟨_, h2, e2, ws ++ [w], some x, rfl, b2, ?_, by rw [List.length_append, hn]; rfl⟩
    intro y hy
    rcases List.mem_append.mp hy with z | z
    · exact hw y z
    · rw [List.mem_singleton.mp z]
      exact hw2) (xs := (List.range m).map iv) (j := 0) (env := [some (.ref p), some (iv l), some (iv m), some (.ref h.length), none]) (h := h ++ [.lst (([] : List Nat).map iv)]) ⟨[], none, rfl, b0, (fun _ hx => nomatch hx), rfl⟩ (by simp)
  have e3 : evS GG (run GG FF (n + 2)) f41.body [some (.ref p), some (iv l), some (iv m), none, none] h = .ok (.rt (.tup (ws.map iv))) h' := by
    rw [f, se, s1, bndS_nx, se, fo, s2, bnd_ok']
    show bndS (forL (drTurn (run GG FF (n + 2))) ((List.range m).map iv) _ _) _ = _
    rw [e, bndS_nx]
    simp only [evS, evE, evA, evF, evW, part1, part0, evC, List.getElem?_cons_zero, List.getElem?_cons_succ, putE, List.set_cons_zero, List.set_cons_succ, tgV, putEs, wipeE, walkC, walkF, bnd_ok', lift_some, bndS_nx, bndS_rt, iv_xor, iv_and, iv_add, iv_axor, iv_aadd, iv_eq, iv_ne, iv_lt, iv_gt, iv_le, tru_bl, int0, int1, int2, b.tuple]
  obtain ⟨h1, e4, d4⟩ := b.fin hq (us := ws)
  refine ⟨ws, h1, ?_, hw, ?_, d4⟩
  · rw [hn]
    simp
  · rw [run_eq (d := f41) rfl rfl]
    show endF f41.frz h.length (evS GG (run GG FF (n + 2)) f41.body [some (.ref p), some (iv l), some (iv m), none, none] h) = _
    rw [e3]
    exact e4
end
end Law
set_option Elab.async false
set_option linter.all false
set_option maxRecDepth 100000
set_option maxHeartbeats 1000000
namespace Law
open Mi Gf
def Two (h0 : Hh) (p : Nat) (us ws : List Nat) (h' : Hh) : Prop := ∃ h1, Drew h0 h1 p ∧ h' = (h1 ++ [.lst (us.map iv)]) ++ [.lst (ws.map iv)]
section
variable {h0 h' h'' : Hh} {p : Nat} {us ws : List Nat}
theorem erase_map : ∀ (l : List Nat) (k : Nat), (l.map iv).eraseIdx k = (l.eraseIdx k).map iv
  | [], _ => rfl
  | _ :: _, 0 => rfl
  | a :: l, k + 1 => by
    rw [List.map_cons, List.eraseIdx_cons_succ, List.eraseIdx_cons_succ, List.map_cons, erase_map l k]
theorem two_len (h1 : Hh) (o : Ob) : (h1 ++ [o]).length = h1.length + 1 := by rw [List.length_append]; rfl
theorem get_1 (h1 : Hh) (a b : Ob) : (h1 ++ [a] ++ [b])[h1.length]? = some a := by
  rw [List.getElem?_append_left (by rw [two_len]; omega)]
  exact get_last _ _
theorem get_2 (h1 : Hh) (a b : Ob) : (h1 ++ [a] ++ [b])[h1.length + 1]? = some b := by
  rw [← two_len h1 a]
  exact get_last _ _
theorem set_1 (h1 : Hh) (a b c : Ob) : (h1 ++ [a] ++ [b]).set h1.length c = h1 ++ [c] ++ [b] := by
  rw [List.set_append_left _ _ (by rw [two_len]; omega), set_last]
theorem set_2 (h1 : Hh) (a b c : Ob) : (h1 ++ [a] ++ [b]).set (h1.length + 1) c = h1 ++ [a] ++ [c] := by
  rw [← two_len h1 a]
  exact set_last _ _ _
theorem Two.left (b : Two h0 p us ws h') : h'[h0.length]? = some (.lst (us.map iv)) := by
  obtain ⟨h1, d, rfl⟩ := b
  rw [← d.len]
  exact get_1 _ _ _
theorem Two.right (b : Two h0 p us ws h') : h'[h0.length + 1]? = some (.lst (ws.map iv)) := by
  obtain ⟨h1, d, rfl⟩ := b
  rw [← d.len]
  exact get_2 _ _ _
theorem Two.pail (b : Two h0 p us ws h') : Pail h' p := by
  obtain ⟨h1, d, rfl⟩ := b
  obtain ⟨g, s, c, e⟩ := d.1
  have hl := Pail.lt d.1
  exact ⟨g, s, c, by rw [List.getElem?_append_left (by rw [two_len]; omega), List.getElem?_append_left hl]; exact e⟩
theorem Two.draw (b : Two h0 p us ws h') (d : Drew h' h'' p) : Two h0 p us ws h'' := by
  obtain ⟨h1, d1, rfl⟩ := b
  obtain ⟨q, o, rfl⟩ := d
  have hl := Pail.lt d1.1
  have e : (h1 ++ [Ob.lst (us.map iv)] ++ [Ob.lst (ws.map iv)]).set p o = h1.set p o ++ [.lst (us.map iv)] ++ [.lst (ws.map iv)] := by
    rw [List.set_append_left _ _ (by rw [two_len]; omega), List.set_append_left _ _ hl]
  rw [e] at q ⊢
  refine ⟨h1.set p o, d1.trans ⟨?_, o, rfl⟩, rfl⟩
  obtain ⟨g, s, c, e2⟩ := q
  rw [List.getElem?_append_left (by rw [two_len, List.length_set]; omega), List.getElem?_append_left (by rw [List.length_set]; exact hl)] at e2
  exact ⟨g, s, c, e2⟩
theorem Two.rcvL (b : Two h0 p us ws h') : rcv .pop1 h' (.ref h0.length) = true := by
  show (match h'[h0.length]? with
    | some (.lst _) => true
    | _ => false) = true
  rw [b.left]
theorem Two.rcvR (b : Two h0 p us ws h') : rcv .append h' (.ref (h0.length + 1)) = true := by
  show (match h'[h0.length + 1]? with
    | some (.lst _) => true
    | _ => false) = true
  rw [b.right]
theorem Two.lenL (b : Two h0 p us ws h') : bifV .len h' [.ref h0.length] = some (iv us.length) := by
  show (match h'[h0.length]? with
    | some (.lst xs) => some (Vl.int (xs.length : Nat))
    | some (.dct xs) => some (.int (xs.length : Nat))
    | _ => none) = _
  rw [b.left]
  exact len_words us
theorem Two.lenR (b : Two h0 p us ws h') : bifV .len h' [.ref (h0.length + 1)] = some (iv ws.length) := by
  show (match h'[h0.length + 1]? with
    | some (.lst xs) => some (Vl.int (xs.length : Nat))
    | some (.dct xs) => some (.int (xs.length : Nat))
    | _ => none) = _
  rw [b.right]
  exact len_words ws
theorem Two.app (b : Two h0 p us ws h') (hz : ws.length < line) (w : Nat) : ∃ h'', mthV .append h' (.ref (h0.length + 1)) [iv w] = .ok .non h'' ∧ Two h0 p us (ws ++ [w]) h'' := by
  have ha := b.right
  obtain ⟨h1, d, rfl⟩ := b
  refine ⟨h1 ++ [.lst (us.map iv)] ++ [.lst ((ws ++ [w]).map iv)], ?_, h1, d, rfl⟩
  show (match (h1 ++ [Ob.lst (us.map iv)] ++ [Ob.lst (ws.map iv)])[h0.length + 1]? with
    | some (.lst l) => if l.length < line then R.ok Vl.non ((h1 ++ [Ob.lst (us.map iv)] ++ [Ob.lst (ws.map iv)]).set (h0.length + 1) (.lst (l ++ [iv w]))) else .bad
    | _ => .bad) = _
  rw [ha]
  dsimp only
  rw [if_pos (by rw [List.length_map]; exact hz), ← d.len, set_2, List.map_append]
  rfl
theorem Two.pop (b : Two h0 p us ws h') {k : Nat} (hk : k < us.length) (hz : us.length ≤ 1000) : ∃ h'', mthV .pop1 h' (.ref h0.length) [iv k] = .ok (iv us[k]) h'' ∧ Two h0 p (us.eraseIdx k) ws h'' := by
  have ha := b.left
  obtain ⟨h1, d, rfl⟩ := b
  refine ⟨h1 ++ [.lst ((us.eraseIdx k).map iv)] ++ [.lst (ws.map iv)], ?_, h1, d, rfl⟩
  show (match (h1 ++ [Ob.lst (us.map iv)] ++ [Ob.lst (ws.map iv)])[h0.length]? with
    | some (.lst l) => if k < 1000000000 then (match l[k]? with
        | some y => R.ok y ((h1 ++ [Ob.lst (us.map iv)] ++ [Ob.lst (ws.map iv)]).set h0.length (.lst (l.eraseIdx k)))
        | none => .bad) else .bad
    | _ => .bad) = _
  rw [ha]
  dsimp only
  rw [if_pos (by omega), List.getElem?_map, List.getElem?_eq_getElem hk]
  show R.ok (iv us[k]) _ = _
  rw [← d.len, set_1, erase_map]
theorem Two.get (b : Two h0 p us ws h') {k : Nat} (hk : k < ws.length) : subV h' (.ref (h0.length + 1)) (iv k) = some (iv ws[k]) := by
  show (match h'[h0.length + 1]? with
    | some (.lst xs) => match Mi.ixN xs.length (k : Int) with
      | some j => xs[j]?
      | none => none
    | some (.dct kvs) => dget (iv k) kvs
    | _ => none) = _
  rw [b.right]
  exact sub_words ws k hk
theorem Two.set (b : Two h0 p us ws h') {k : Nat} (hk : k < ws.length) (w : Nat) : ∃ h'', setV h' (.ref (h0.length + 1)) (iv k) (iv w) = some h'' ∧ Two h0 p us (ws.set k w) h'' := by
  have ha := b.right
  obtain ⟨h1, d, rfl⟩ := b
  refine ⟨h1 ++ [.lst (us.map iv)] ++ [.lst ((ws.set k w).map iv)], ?_, h1, d, rfl⟩
  show (match (h1 ++ [Ob.lst (us.map iv)] ++ [Ob.lst (ws.map iv)])[h0.length + 1]? with
    | some (.lst xs) => match Mi.ixN xs.length (k : Int) with
      | some j => some ((h1 ++ [Ob.lst (us.map iv)] ++ [Ob.lst (ws.map iv)]).set (h0.length + 1) (.lst (xs.set j (iv w))))
      | none => none
    | some (.dct kvs) => match keyOk (iv k) with
      | true => if kvs.length < line then some ((h1 ++ [Ob.lst (us.map iv)] ++ [Ob.lst (ws.map iv)]).set (h0.length + 1) (.dct (dput (iv k) (iv w) kvs))) else none
      | false => none
    | _ => none) = _
  rw [ha]
  dsimp only
  have : Mi.ixN (ws.map iv).length (k : Int) = some k := by
    show (if k < (ws.map iv).length then some k else none) = _
    rw [if_pos (by rw [List.length_map]; exact hk)]
  rw [this]
  dsimp only
  rw [← d.len, set_2, List.map_set]
theorem Two.fin (b : Two h0 p us ws h') (hp : Pure h0) {vs : List Nat} : ∃ h1, endF true h0.length (.ok (.rt (.tup (vs.map iv))) h') = .ok (.tup (vs.map iv)) h1 ∧ Drew h0 h1 p := by
  obtain ⟨h1, d, rfl⟩ := b
  refine ⟨h1, ?_, d⟩
  have hd : decide ((h1 ++ [Ob.lst (us.map iv)] ++ [Ob.lst (ws.map iv)]).length ≤ h0.length) = false := by
    rw [decide_eq_false]
    rw [two_len, two_len, d.len]
    omega
  have hf : frV (h1 ++ [Ob.lst (us.map iv)] ++ [.lst (ws.map iv)]) h0.length 30 (.tup (vs.map iv)) = some (.tup (vs.map iv)) := by
    show (match mapO (frV (h1 ++ [Ob.lst (us.map iv)] ++ [.lst (ws.map iv)]) h0.length 29) (vs.map iv) with
      | some l => some (Vl.tup l)
      | none => none) = _
    rw [mapO_iv _ _ 28]
  have ht : (h1 ++ [Ob.lst (us.map iv)] ++ [Ob.lst (ws.map iv)]).take h0.length = h1 := by
    rw [← d.len, List.append_assoc]
    exact List.take_left
  unfold endF Mi.fin
  dsimp only
  rw [hd]
  dsimp only
  rw [hf]
  dsimp only
  rw [show wfV h0.length (.tup (vs.map iv)) = true from by simp only [wfV, wfL_iv], ht, (hp.drew d).wf]
theorem plL_iv (n : Nat) : ∀ ws : List Nat, plL (ws.map iv) n = true
  | [] => by simp [plL]
  | w :: ws => by
    rw [List.map_cons]
    unfold plL
    rw [show pl (iv w) n = true from by unfold iv; cases n <;> simp [pl]]
    exact plL_iv n ws
theorem Two.ne (b : Two h0 p us ws h') : cmpV .ne h' (.ref h0.length) (.lst []) = some (decide (us ≠ [])) := by
  have e : pyEq h' (.ref h0.length) (.lst []) = some (decide (us = [])) := by
    unfold pyEq deref
    dsimp only
    rw [b.left]
    show (match plL (us.map iv) 19 with
      | true => match plL [] 19 with
        | true => some (eqV (.lst (us.map iv)) (.lst []))
        | false => none
      | false => none) = _
    rw [plL_iv]
    cases us with
    | nil => simp [plL, eqV, eqL]
    | cons u us => simp [plL, eqV, eqL]
  show (match pyEq h' (.ref h0.length) (.lst []) with
    | some b => some (!b)
    | none => none) = _
  rw [e]
  simp
end
end Law
set_option Elab.async false
set_option linter.all false
set_option maxRecDepth 100000
set_option maxHeartbeats 1000000
namespace Law
open Mi Gf
theorem mix_same {ws : List Nat} {a t : Nat} (ha : a < ws.length) (ht : t < ws.length) (hn : a ≠ t) : Same (ws.set a (ws[a] ^^^ ws[t])) ws := by
  have hat : ∀ i (hi : i < ws.length), i ≠ a → ws[i] ∈ ws.set a (ws[a] ^^^ ws[t]) := fun i hi hne => by
    have : (ws.set a (ws[a] ^^^ ws[t]))[i]'(by rw [List.length_set]; exact hi) = ws[i] := List.getElem_set_ne (Ne.symm hne) _
    rw [← this]
    exact List.getElem_mem _
  have hself : (ws[a] ^^^ ws[t]) ∈ ws.set a (ws[a] ^^^ ws[t]) := List.mem_set ha _
  refine same_of (fun w hw => ?_) fun w hw => ?_
  · rcases List.mem_or_eq_of_mem_set hw with z | z
    · exact sp_mem z
    · rw [z]
      exact sp_xor (sp_mem (List.getElem_mem ha)) (sp_mem (List.getElem_mem ht))
  · obtain ⟨i, hi, rfl⟩ := List.getElem_of_mem hw
    by_cases hia : i = a
    · subst hia
      have := sp_xor (sp_mem hself) (sp_mem (hat t ht (Ne.symm hn)))
      rwa [xor_cancel] at this
    · exact sp_mem (hat i hi hia)
theorem same_zero (ws : List Nat) : Same (ws ++ [0]) ws := by
  refine same_of (fun w hw => ?_) fun w hw => sp_mem (List.mem_append_left _ hw)
  rcases List.mem_append.mp hw with z | z
  · exact sp_mem z
  · rw [List.mem_singleton.mp z]
    exact sp_zero ws
theorem erase_perm : ∀ (l : List Nat) (k : Nat) (hk : k < l.length), (l[k] :: l.eraseIdx k).Perm l
  | a :: l, 0, _ => List.Perm.refl _
  | a :: l, k + 1, hk => by
    have hk2 : k < l.length := by simpa using hk
    have := erase_perm l k hk2
    rw [List.getElem_cons_succ, List.eraseIdx_cons_succ]
    exact (List.Perm.swap a l[k] _).trans (this.cons a)
section
variable {n : Nat} {h : Hh}
theorem mix_while {h0 : Hh} {p : Nat} {t : Option Vl} : ∀ (m k : Nat) {us ws : List Nat} {h' : Hh}, us.length = m → m < k → us.length + ws.length ≤ 900 → Two h0 p us ws h' →
    ∃ (vs : List Nat) (h'' : Hh), vs.Perm (us ++ ws) ∧ whileL (fun env h => bnd (evE GG (run GG FF (n + 2)) (.cmp .ne (.var 3) (.fz (.disp .anil))) env h) fun x h => lift (truth h x) h) (fun env h => evS GG (run GG FF (n + 2)) (.ex (.mth .append (.var 4) (.acons (.mth .pop1 (.var 3) (.acons (.call 32 (.acons (.var 0) (.acons (.bif .len (.acons (.var 3) .anil)) .anil))) .anil)) .anil))) env h) k [some (.ref p), t, none, some (.ref h0.length), some (.ref (h0.length + 1)), none, none] h' = .ok (.nx [some (.ref p), t, none, some (.ref h0.length), some (.ref (h0.length + 1)), none, none]) h'' ∧ Two h0 p [] vs h''
  | m, 0, us, ws, h', _, hk, _, _ => by omega
  | m, k + 1, us, ws, h', hm, hk, hz, b => by
    have big := line_big
    have h00 : decide (([] : List Vl).length ≤ line) = true := decide_eq_true (by show 0 ≤ line; exact Nat.zero_le _)
    by_cases hu : us = []
    · subst hu
      refine ⟨ws, h', List.Perm.refl _, ?_, b⟩
      refine while_f ?_
      simp only [evS, evE, evA, evF, evW, part1, part0, evC, List.getElem?_cons_zero, List.getElem?_cons_succ, putE, List.set_cons_zero, List.set_cons_succ, tgV, putEs, wipeE, walkC, walkF, bnd_ok', lift_some, bndS_nx, bndS_rt, iv_xor, iv_and, iv_add, iv_axor, iv_aadd, iv_eq, iv_ne, iv_lt, iv_gt, iv_le, tru_bl, int0, int1, int2, h00, b.ne, decide_eq_false (show ¬ (([] : List Nat) ≠ []) from fun z => z rfl)]
    · have hpos : 0 < us.length := List.length_pos_iff.mpr hu
      obtain ⟨r, g1, hr, e1, d1⟩ := r32 (n := n + 1) b.pail hpos (by
        have := Nat.log2_le_self us.length
        omega)
      have b1 := b.draw d1
      obtain ⟨g2, e2, b2⟩ := b1.pop hr (by omega)
      obtain ⟨g3, e3, b3⟩ := b2.app (by omega) us[r]
      have hl : (us.eraseIdx r).length + 1 = us.length := by
        rw [List.length_eraseIdx_of_lt hr]
        omega
      obtain ⟨vs, g4, hp, e4, b4⟩ := mix_while (t := t) (us.eraseIdx r).length k rfl (by omega) (by rw [List.length_append, List.length_singleton]; omega) b3
      refine ⟨vs, g4, hp.trans ?_, ?_, b4⟩
      · rw [← List.append_assoc]
        refine (List.perm_append_singleton _ _).trans ?_
        exact (erase_perm us r hr).append_right ws
      · refine (while_t (h1 := h') ?_ ?_).trans e4
        · simp only [evS, evE, evA, evF, evW, part1, part0, evC, List.getElem?_cons_zero, List.getElem?_cons_succ, putE, List.set_cons_zero, List.set_cons_succ, tgV, putEs, wipeE, walkC, walkF, bnd_ok', lift_some, bndS_nx, bndS_rt, iv_xor, iv_and, iv_add, iv_axor, iv_aadd, iv_eq, iv_ne, iv_lt, iv_gt, iv_le, tru_bl, int0, int1, int2, h00, b.ne, decide_eq_true hu]
        · simp only [evS, evE, evA, evF, evW, part1, part0, evC, List.getElem?_cons_zero, List.getElem?_cons_succ, putE, List.set_cons_zero, List.set_cons_succ, tgV, putEs, wipeE, walkC, walkF, bnd_ok', lift_some, bndS_nx, bndS_rt, iv_xor, iv_and, iv_add, iv_axor, iv_aadd, iv_eq, iv_ne, iv_lt, iv_gt, iv_le, tru_bl, int0, int1, int2, b.rcvR, b.rcvL, b.lenL, e1, e2, e3]
def mxTurn (cf : CF) (x : Vl) (env : Env) (h : Hh) : R Oc := match tgV (.n 2) x env with
  | some env' => evS GG cf (.seq (.set 5 (.call 32 (.acons (.var 0) (.acons (.bif .len (.acons (.var 4) .anil)) .anil)))) (.seq (.set 6 (.bin .mod (.bin .add (.bin .add (.var 5) (.int 1)) (.call 32 (.acons (.var 0) (.acons (.bin .sub (.bif .len (.acons (.var 4) .anil)) (.int 1)) .anil)))) (.bif .len (.acons (.var 4) .anil)))) (.sets (.var 4) (.var 5) (.bin .xor (.sub (.var 4) (.var 5)) (.sub (.var 4) (.var 6)))))) env' h
  | none => .bad
theorem iv_pred {a : Nat} (ha : 1 ≤ a) : binV .sub h (iv a) (iv 1) = some (iv (a - 1)) := by
  show some (Vl.int ((a : Int) - 1)) = some (Vl.int ((a - 1 : Nat) : Int))
  congr 2
  omega
theorem mx_turn {h0 h' : Hh} {p l : Nat} {ws : List Nat} {x : Vl} {t o2 o5 o6 : Option Vl} (b : Two h0 p [] ws h') (hw : ∀ w ∈ ws, w < 2 ^ l) (h1 : 1 < ws.length) (hz : ws.length ≤ 900) :
    ∃ (vs : List Nat) (h'' : Hh) (q5 q6 : Option Vl), Same vs ws ∧ (∀ w ∈ vs, w < 2 ^ l) ∧ vs.length = ws.length ∧ mxTurn (run GG FF (n + 2)) x [some (.ref p), t, o2, some (.ref h0.length), some (.ref (h0.length + 1)), o5, o6] h' = .ok (.nx [some (.ref p), t, some x, some (.ref h0.length), some (.ref (h0.length + 1)), q5, q6]) h'' ∧ Two h0 p [] vs h'' := by
  have hlog : ∀ m, m ≤ ws.length → m.log2 < 9000 := fun m hm => by
    have := Nat.log2_le_self m
    omega
  obtain ⟨a, g1, ha, e1, d1⟩ := r32 (n := n + 1) b.pail (show 0 < ws.length by omega) (hlog _ (Nat.le_refl _))
  have b1 := b.draw d1
  obtain ⟨c, g2, hc, e2, d2⟩ := r32 (n := n + 1) b1.pail (show 0 < ws.length - 1 by omega) (hlog _ (Nat.sub_le _ _))
  have b2 := b1.draw d2
  have hto : (a + 1 + c) % ws.length < ws.length := Nat.mod_lt _ (by omega)
  have hne : a ≠ (a + 1 + c) % ws.length := by
    by_cases q : a + 1 + c < ws.length
    · rw [Nat.mod_eq_of_lt q]
      omega
    · have : (a + 1 + c) % ws.length = a + 1 + c - ws.length := by
        rw [Nat.mod_eq_sub_mod (by omega), Nat.mod_eq_of_lt (by omega)]
      omega
  obtain ⟨g3, e3, b3⟩ := b2.set ha (ws[a] ^^^ ws[(a + 1 + c) % ws.length])
  refine ⟨_, g3, some (iv a), some (iv ((a + 1 + c) % ws.length)), mix_same ha hto hne, ?_, List.length_set .., ?_, b3⟩
  · intro w hw2
    rcases List.mem_or_eq_of_mem_set hw2 with z | z
    · exact hw w z
    · rw [z]
      exact Nat.xor_lt_two_pow (hw _ (List.getElem_mem ha)) (hw _ (List.getElem_mem hto))
  · unfold mxTurn
    simp only [evS, evE, evA, evF, evW, part1, part0, evC, List.getElem?_cons_zero, List.getElem?_cons_succ, putE, List.set_cons_zero, List.set_cons_succ, tgV, putEs, wipeE, walkC, walkF, bnd_ok', lift_some, bndS_nx, bndS_rt, iv_xor, iv_and, iv_add, iv_axor, iv_aadd, iv_eq, iv_ne, iv_lt, iv_gt, iv_le, tru_bl, int0, int1, int2, b.lenR, e1, b1.lenR, iv_pred (show 1 ≤ ws.length by omega), e2, b2.lenR, iv_mod (show 0 < ws.length by omega), b2.get ha, b2.get hto, e3]
end
end Law
set_option Elab.async false
set_option linter.all false
set_option maxRecDepth 100000
set_option maxHeartbeats 1000000
namespace Law
open Mi Gf
section
variable {n : Nat} {h : Hh}
theorem Two.cat {h0 h' : Hh} {p : Nat} {us ws : List Nat} (b : Two h0 p us ws h') (hz : ws.length + 1 ≤ 100000) : catV h' (.ref (h0.length + 1)) (.lst [iv 0]) = some ((ws ++ [0]).map iv) := by
  have big := line_big
  show (match (match h'[h0.length + 1]? with
    | some (.lst xs) => some xs
    | _ => none) with
    | some a => if a.length + [iv 0].length ≤ line then some (a ++ [iv 0]) else none
    | none => none) = _
  rw [b.right]
  dsimp only
  rw [if_pos (by rw [List.length_map]; show ws.length + 1 ≤ line; omega), List.map_append]
  rfl
theorem r42 {p l : Nat} {ws : List Nat} (hp : Pail h p) (hq : Pure h) (hw : ∀ w ∈ ws, w < 2 ^ l) (hz : ws.length ≤ 900) : ∃ (us : List Nat) (h' : Hh), Same us ws ∧ (∀ w ∈ us, w < 2 ^ l) ∧ us.length = ws.length + 1 ∧ run GG FF (n + 3) 42 [.ref p, .tup (ws.map iv)] h = .ok (.tup (us.map iv)) h' ∧ Drew h h' p := by
  have big := line_big
  have f : f42.body = .seq (.par [3, 4] (.acons (.th (.listof (.var 1))) (.acons (.th (.disp .anil)) .anil))) (.seq (.whiles (.cmp .ne (.var 3) (.fz (.disp .anil))) (.ex (.mth .append (.var 4) (.acons (.mth .pop1 (.var 3) (.acons (.call 32 (.acons (.var 0) (.acons (.bif .len (.acons (.var 3) .anil)) .anil))) .anil)) .anil)))) (.seq (.fors (.n 2) (.range (.acons (.ite (.cmp .gt (.bif .len (.acons (.var 4) .anil)) (.int 1)) (.int 3) (.int 0)) .anil)) (.seq (.set 5 (.call 32 (.acons (.var 0) (.acons (.bif .len (.acons (.var 4) .anil)) .anil)))) (.seq (.set 6 (.bin .mod (.bin .add (.bin .add (.var 5) (.int 1)) (.call 32 (.acons (.var 0) (.acons (.bin .sub (.bif .len (.acons (.var 4) .anil)) (.int 1)) .anil)))) (.bif .len (.acons (.var 4) .anil)))) (.sets (.var 4) (.var 5) (.bin .xor (.sub (.var 4) (.var 5)) (.sub (.var 4) (.var 6))))))) (.ret (.bif .tuple (.acons (.fz (.cat (.var 4) (.fz (.disp (.acons (.int 0) .anil))))) .anil))))) := rfl
  have se : ∀ a b env h, evS GG (run GG FF (n + 2)) (.seq a b) env h = bndS (evS GG (run GG FF (n + 2)) a env h) fun env h => evS GG (run GG FF (n + 2)) b env h := fun _ _ _ _ => rfl
  have s1 : evS GG (run GG FF (n + 2)) (.par [3, 4] (.acons (.th (.listof (.var 1))) (.acons (.th (.disp .anil)) .anil))) [some (.ref p), some (.tup (ws.map iv)), none, none, none, none, none] h = .ok (.nx [some (.ref p), some (.tup (ws.map iv)), none, some (.ref h.length), some (.ref (h.length + 1)), none, none]) (h ++ [.lst (ws.map iv)] ++ [.lst (([] : List Nat).map iv)]) := by
    have h0 : decide (([] : List Vl).length ≤ line) = true := decide_eq_true (by show 0 ≤ line; exact Nat.zero_le _)
    have e1 : seqOf h (.tup (ws.map iv)) = some (ws.map iv) := rfl
    simp only [evS, evE, evA, evF, evW, part1, part0, evC, List.getElem?_cons_zero, List.getElem?_cons_succ, putE, List.set_cons_zero, List.set_cons_succ, tgV, putEs, wipeE, walkC, walkF, bnd_ok', lift_some, bndS_nx, bndS_rt, iv_xor, iv_and, iv_add, iv_axor, iv_aadd, iv_eq, iv_ne, iv_lt, iv_gt, iv_le, tru_bl, int0, int1, int2, e1, h0, two_len]
    rfl
  have b0 : Two h p ws [] (h ++ [.lst (ws.map iv)] ++ [.lst (([] : List Nat).map iv)]) := ⟨h, Drew.refl hp, rfl⟩
  obtain ⟨vs, g2, hperm, e2, b2⟩ := mix_while (n := n) (t := some (.tup (ws.map iv))) ws.length fuelW rfl (show ws.length < 1000000 by omega) (by rw [List.length_nil]; omega) b0
  rw [List.append_nil] at hperm
  have hv : ∀ w ∈ vs, w < 2 ^ l := fun w hw2 => hw w (hperm.mem_iff.mp hw2)
  have hlen : vs.length = ws.length := hperm.length_eq
  have s3 : ∃ (us : List Nat) (g3 : Hh) (o2 o5 o6 : Option Vl), Same us vs ∧ (∀ w ∈ us, w < 2 ^ l) ∧ us.length = vs.length ∧ evS GG (run GG FF (n + 2)) (.fors (.n 2) (.range (.acons (.ite (.cmp .gt (.bif .len (.acons (.var 4) .anil)) (.int 1)) (.int 3) (.int 0)) .anil)) (.seq (.set 5 (.call 32 (.acons (.var 0) (.acons (.bif .len (.acons (.var 4) .anil)) .anil)))) (.seq (.set 6 (.bin .mod (.bin .add (.bin .add (.var 5) (.int 1)) (.call 32 (.acons (.var 0) (.acons (.bin .sub (.bif .len (.acons (.var 4) .anil)) (.int 1)) .anil)))) (.bif .len (.acons (.var 4) .anil)))) (.sets (.var 4) (.var 5) (.bin .xor (.sub (.var 4) (.var 5)) (.sub (.var 4) (.var 6))))))) [some (.ref p), some (.tup (ws.map iv)), none, some (.ref h.length), some (.ref (h.length + 1)), none, none] g2 = .ok (.nx [some (.ref p), some (.tup (ws.map iv)), o2, some (.ref h.length), some (.ref (h.length + 1)), o5, o6]) g3 ∧ Two h p [] us g3 := by
    by_cases h1 : 1 < vs.length
    · obtain ⟨env', g3, e, us, o2, o5, o6, rfl, hs, hu, hn, b3⟩ := forL_ex (turn := mxTurn (run GG FF (n + 2))) (fun env g => ∃ (us : List Nat) (o2 o5 o6 : Option Vl), env = [some (.ref p), some (.tup (ws.map iv)), o2, some (.ref h.length), some (.ref (h.length + 1)), o5, o6] ∧ Same us vs ∧ (∀ w ∈ us, w < 2 ^ l) ∧ us.length = vs.length ∧ Two h p [] us g) (xs := rangeL 3 0 1) (env := [some (.ref p), some (.tup (ws.map iv)), none, some (.ref h.length), some (.ref (h.length + 1)), none, none]) (h := g2) ⟨vs, none, none, none, rfl, Same.refl vs, hv, rfl, b2⟩ (fun x _ env g i => by
        obtain ⟨us, o2, o5, o6, rfl, hs, hu, hn, b⟩ := i
        obtain ⟨us', g', o5', o6', hs', hu', hn', e', b'⟩ := mx_turn (n := n) (x := x) (t := some (.tup (ws.map iv))) (o2 := o2) (o5 := o5) (o6 := o6) b hu (by omega) (by omega)
        exact ⟨_, g', e', us', some x, o5', o6', rfl, hs'.trans hs, hu', hn'.trans hn, b'⟩)
      refine ⟨us, g3, o2, o5, o6, hs, hu, hn, ?_, b3⟩
      have s2 : evW GG (run GG FF (n + 2)) (.range (.acons (.ite (.cmp .gt (.bif .len (.acons (.var 4) .anil)) (.int 1)) (.int 3) (.int 0)) .anil)) [some (.ref p), some (.tup (ws.map iv)), none, some (.ref h.length), some (.ref (h.length + 1)), none, none] g2 = .ok (.its (rangeL 3 0 1)) g2 := by
        simp only [evS, evE, evA, evF, evW, part1, part0, evC, List.getElem?_cons_zero, List.getElem?_cons_succ, putE, List.set_cons_zero, List.set_cons_succ, tgV, putEs, wipeE, walkC, walkF, bnd_ok', lift_some, bndS_nx, bndS_rt, iv_xor, iv_and, iv_add, iv_axor, iv_aadd, iv_eq, iv_ne, iv_lt, iv_gt, iv_le, tru_bl, int0, int1, int2, b2.lenR, decide_eq_true h1]
        rfl
      show bnd (evW GG (run GG FF (n + 2)) (.range (.acons (.ite (.cmp .gt (.bif .len (.acons (.var 4) .anil)) (.int 1)) (.int 3) (.int 0)) .anil)) _ g2) (fun w h => walkF (mxTurn (run GG FF (n + 2))) w _ h) = _
      rw [s2, bnd_ok']
      exact e
    · refine ⟨vs, g2, none, none, none, Same.refl vs, hv, rfl, ?_, b2⟩
      have s2 : evW GG (run GG FF (n + 2)) (.range (.acons (.ite (.cmp .gt (.bif .len (.acons (.var 4) .anil)) (.int 1)) (.int 3) (.int 0)) .anil)) [some (.ref p), some (.tup (ws.map iv)), none, some (.ref h.length), some (.ref (h.length + 1)), none, none] g2 = .ok (.its []) g2 := by
        simp only [evS, evE, evA, evF, evW, part1, part0, evC, List.getElem?_cons_zero, List.getElem?_cons_succ, putE, List.set_cons_zero, List.set_cons_succ, tgV, putEs, wipeE, walkC, walkF, bnd_ok', lift_some, bndS_nx, bndS_rt, iv_xor, iv_and, iv_add, iv_axor, iv_aadd, iv_eq, iv_ne, iv_lt, iv_gt, iv_le, tru_bl, int0, int1, int2, b2.lenR, decide_eq_false h1]
        rfl
      show bnd (evW GG (run GG FF (n + 2)) (.range (.acons (.ite (.cmp .gt (.bif .len (.acons (.var 4) .anil)) (.int 1)) (.int 3) (.int 0)) .anil)) _ g2) (fun w h => walkF (mxTurn (run GG FF (n + 2))) w _ h) = _
      rw [s2, bnd_ok']
      rfl
  obtain ⟨us, g3, o2, o5, o6, hs, hu, hn, s3, b3⟩ := s3
  have e3 : evS GG (run GG FF (n + 2)) f42.body [some (.ref p), some (.tup (ws.map iv)), none, none, none, none, none] h = .ok (.rt (.tup ((us ++ [0]).map iv))) g3 := by
    have h1 : decide ([iv 0].length ≤ line) = true := decide_eq_true (by show 1 ≤ line; omega)
    have e5 : ∀ l : List Vl, bifV .tuple g3 [.lst l] = some (.tup l) := fun l => rfl
    rw [f, se, s1, bndS_nx, se]
    show bndS (whileL _ _ fuelW _ _) _ = _
    rw [e2, bndS_nx, se, s3, bndS_nx]
    simp only [evS, evE, evA, evF, evW, part1, part0, evC, List.getElem?_cons_zero, List.getElem?_cons_succ, putE, List.set_cons_zero, List.set_cons_succ, tgV, putEs, wipeE, walkC, walkF, bnd_ok', lift_some, bndS_nx, bndS_rt, iv_xor, iv_and, iv_add, iv_axor, iv_aadd, iv_eq, iv_ne, iv_lt, iv_gt, iv_le, tru_bl, int0, int1, int2, h1, b3.cat (show us.length + 1 ≤ 100000 by omega), e5]
  obtain ⟨h1, e4, d4⟩ := b3.fin hq (vs := us ++ [0])
  refine ⟨us ++ [0], h1, (same_zero us).trans (hs.trans (same_perm hperm)), ?_, by rw [List.length_append, hn, hlen]; rfl, ?_, d4⟩
  · intro w hw2
    rcases List.mem_append.mp hw2 with z | z
    · exact hu w z
    · rw [List.mem_singleton.mp z]
      exact Nat.two_pow_pos l
  · rw [run_eq (d := f42) rfl rfl]
    show endF f42.frz h.length (evS GG (run GG FF (n + 2)) f42.body [some (.ref p), some (.tup (ws.map iv)), none, none, none, none, none] h) = _
    rw [e3]
    exact e4
end
end Law
set_option Elab.async false
set_option linter.all false
set_option maxRecDepth 100000
set_option maxHeartbeats 1000000
namespace Law
open Mi Gf
section
variable {n : Nat} {h : Hh}
def Odd : Vl → Bool
  | .non => true
  | .bl _ => true
  | .str _ => true
  | .tup _ => true
  | _ => false
def wd (l : Nat) : Vl → Bool
  | .int i => decide (0 ≤ i ∧ i < (2 ^ l : Nat))
  | _ => false
def plainV : Vl → Bool
  | .int _ => true
  | v => Odd v
theorem r0v {v : Vl} (hv : Odd v = true) : run GG FF (n + 1) 0 [v] h = .ok (.bl false) h := by
  refine run_ret (d := f0) rfl rfl ?_
  cases v with
  | non => rfl
  | bl b => rfl
  | str s => rfl
  | tup xs => rfl
  | _ => cases hv
theorem r2v {l : Nat} {v : Vl} (hv : Odd v = true) : run GG FF (n + 2) 2 [iv l, v] h = .ok (.bl false) h := by
  refine run_ret (d := f2) rfl rfl ?_
  show evS GG (run GG FF (n + 1)) f2.body [some (iv l), some v] h = _
  simp only [f2, evS, evE, evA, evF, evW, part1, part0, evC, List.getElem?_cons_zero, List.getElem?_cons_succ, putE, List.set_cons_zero, List.set_cons_succ, tgV, putEs, wipeE, walkC, walkF, bnd_ok', lift_some, bndS_nx, bndS_rt, iv_xor, iv_and, iv_add, iv_axor, iv_aadd, iv_eq, iv_ne, iv_lt, iv_gt, iv_le, tru_bl, int0, int1, int2, r0v hv]
theorem r22 {l : Nat} {v : Vl} (h1 : 1 ≤ l) (h2 : l ≤ 24) (hv : plainV v = true) : run GG FF (n + 4) 22 [iv l, v] h = .ok (.bl (wd l v)) h := by
  refine run_ret (d := f22) rfl rfl ?_
  show evS GG (run GG FF (n + 3)) f22.body [some (iv l), some v] h = _
  have e : run GG FF (n + 3) 2 [iv l, v] h = .ok (.bl (wd l v)) h := by
    cases v with
    | int i => exact r2 (n := n + 1) l (by omega) i
    | non => exact r2v (n := n + 1) rfl
    | bl b => exact r2v (n := n + 1) rfl
    | str s => exact r2v (n := n + 1) rfl
    | tup xs => exact r2v (n := n + 1) rfl
    | _ => cases hv
  simp only [f22, evS, evE, evA, evF, evW, part1, part0, evC, List.getElem?_cons_zero, List.getElem?_cons_succ, putE, List.set_cons_zero, List.set_cons_succ, tgV, putEs, wipeE, walkC, walkF, bnd_ok', lift_some, bndS_nx, bndS_rt, iv_xor, iv_and, iv_add, iv_axor, iv_aadd, iv_eq, iv_ne, iv_lt, iv_gt, iv_le, tru_bl, int0, int1, int2, r17 l h1 h2, e]
theorem due_v {cf : CF} {env : Env} {l : Nat} {v : Vl} (hl : l ≤ 1000) (hv : plainV v = true) (e1 : env[1]? = some (some (iv l))) (e7 : env[7]? = some (some v)) : evE GG cf (.and (.bif .isint (.acons (.var 7) .anil)) (.and (.not (.bif .isbool (.acons (.var 7) .anil))) (.chain .le .lt (.int 0) (.var 7) (.bin .shl (.int 1) (.var 1))))) env h = .ok (.bl (wd l v)) h := by
  cases v with
  | int i =>
    have q1 : bifV .isint h [.int i] = some (.bl true) := rfl
    have q2 : bifV .isbool h [.int i] = some (.bl false) := rfl
    have q3 : cmpV .le h (iv 0) (.int i) = some (decide (0 ≤ i)) := rfl
    have q4 : cmpV .lt h (.int i) (iv (2 ^ l)) = some (decide (i < (2 ^ l : Nat))) := rfl
    show _ = R.ok (Vl.bl (decide (0 ≤ i ∧ i < (2 ^ l : Nat)))) h
    by_cases z : 0 ≤ i
    · by_cases z2 : i < (2 ^ l : Nat)
      · simp only [evS, evE, evA, evF, evW, part1, part0, evC, List.getElem?_cons_zero, List.getElem?_cons_succ, putE, List.set_cons_zero, List.set_cons_succ, tgV, putEs, wipeE, walkC, walkF, bnd_ok', lift_some, bndS_nx, bndS_rt, iv_xor, iv_and, iv_add, iv_axor, iv_aadd, iv_eq, iv_ne, iv_lt, iv_gt, iv_le, tru_bl, int0, int1, int2, e1, e7, q1, q2, q3, q4, Bool.not_false, decide_eq_true z, iv_shl hl, decide_eq_true z2, decide_eq_true (And.intro z z2)]
      · simp only [evS, evE, evA, evF, evW, part1, part0, evC, List.getElem?_cons_zero, List.getElem?_cons_succ, putE, List.set_cons_zero, List.set_cons_succ, tgV, putEs, wipeE, walkC, walkF, bnd_ok', lift_some, bndS_nx, bndS_rt, iv_xor, iv_and, iv_add, iv_axor, iv_aadd, iv_eq, iv_ne, iv_lt, iv_gt, iv_le, tru_bl, int0, int1, int2, e1, e7, q1, q2, q3, q4, Bool.not_false, decide_eq_true z, iv_shl hl, decide_eq_false z2, decide_eq_false (fun a : 0 ≤ i ∧ i < (2 ^ l : Nat) => z2 a.2)]
    · simp only [evS, evE, evA, evF, evW, part1, part0, evC, List.getElem?_cons_zero, List.getElem?_cons_succ, putE, List.set_cons_zero, List.set_cons_succ, tgV, putEs, wipeE, walkC, walkF, bnd_ok', lift_some, bndS_nx, bndS_rt, iv_xor, iv_and, iv_add, iv_axor, iv_aadd, iv_eq, iv_ne, iv_lt, iv_gt, iv_le, tru_bl, int0, int1, int2, e1, e7, q1, q2, q3, Bool.not_false, decide_eq_false z, decide_eq_false (fun a : 0 ≤ i ∧ i < (2 ^ l : Nat) => z a.1)]
  | non =>
    have q1 : bifV .isint h [.non] = some (.bl false) := rfl
    simp only [evS, evE, evA, evF, evW, part1, part0, evC, List.getElem?_cons_zero, List.getElem?_cons_succ, putE, List.set_cons_zero, List.set_cons_succ, tgV, putEs, wipeE, walkC, walkF, bnd_ok', lift_some, bndS_nx, bndS_rt, iv_xor, iv_and, iv_add, iv_axor, iv_aadd, iv_eq, iv_ne, iv_lt, iv_gt, iv_le, tru_bl, int0, int1, int2, e7, q1, wd]
  | bl b =>
    have q1 : bifV .isint h [.bl b] = some (.bl true) := rfl
    have q2 : bifV .isbool h [.bl b] = some (.bl true) := rfl
    simp only [evS, evE, evA, evF, evW, part1, part0, evC, List.getElem?_cons_zero, List.getElem?_cons_succ, putE, List.set_cons_zero, List.set_cons_succ, tgV, putEs, wipeE, walkC, walkF, bnd_ok', lift_some, bndS_nx, bndS_rt, iv_xor, iv_and, iv_add, iv_axor, iv_aadd, iv_eq, iv_ne, iv_lt, iv_gt, iv_le, tru_bl, int0, int1, int2, e7, q1, q2, Bool.not_true, wd]
  | str s =>
    have q1 : bifV .isint h [.str s] = some (.bl false) := rfl
    simp only [evS, evE, evA, evF, evW, part1, part0, evC, List.getElem?_cons_zero, List.getElem?_cons_succ, putE, List.set_cons_zero, List.set_cons_succ, tgV, putEs, wipeE, walkC, walkF, bnd_ok', lift_some, bndS_nx, bndS_rt, iv_xor, iv_and, iv_add, iv_axor, iv_aadd, iv_eq, iv_ne, iv_lt, iv_gt, iv_le, tru_bl, int0, int1, int2, e7, q1, wd]
  | tup xs =>
    have q1 : bifV .isint h [.tup xs] = some (.bl false) := rfl
    simp only [evS, evE, evA, evF, evW, part1, part0, evC, List.getElem?_cons_zero, List.getElem?_cons_succ, putE, List.set_cons_zero, List.set_cons_succ, tgV, putEs, wipeE, walkC, walkF, bnd_ok', lift_some, bndS_nx, bndS_rt, iv_xor, iv_and, iv_add, iv_axor, iv_aadd, iv_eq, iv_ne, iv_lt, iv_gt, iv_le, tru_bl, int0, int1, int2, e7, q1, wd]
  | _ => cases hv
end
end Law
set_option Elab.async false
set_option linter.all false
set_option maxRecDepth 100000
set_option maxHeartbeats 1000000
namespace Law
open Mi Gf
theorem popc_ones : ∀ k w, popc k w = ones k w
  | 0, _ => rfl
  | k + 1, w => by
    show w % 2 + popc k (w / 2) = w % 2 + ones k (w / 2)
    rw [popc_ones k]
theorem wt_popc {w : Nat} (hw : w < 2 ^ 24) : wt w = popc 24 w := by
  rw [popc_ones]
  exact trick w hw
theorem bits_le' {w l : Nat} (hw : w < 2 ^ l) : bits w ≤ l := by
  unfold bits
  split
  · omega
  · rename_i z
    have := (Nat.log2_lt z).mpr hw
    omega
theorem plcs_range {w l : Nat} (hw : w < 2 ^ l) : plcs w = (List.range l).filter fun p => w.testBit p := by
  obtain ⟨d, hd⟩ : ∃ d, l = bits w + d := ⟨l - bits w, by have := bits_le' hw; omega⟩
  rw [hd, List.range_add, List.filter_append]
  have e : ((List.range d).map (bits w + ·)).filter (fun p => w.testBit p) = [] := by
    rw [List.filter_eq_nil_iff]
    intro p hp
    obtain ⟨q, _, rfl⟩ := List.mem_map.mp hp
    unfold bits
    split
    · rename_i z
      rw [z]
      simp
    · rw [tb_above (by omega)]
      simp
  rw [e, List.append_nil]
  rfl
theorem plcs_sum {w l : Nat} (hw : w < 2 ^ l) : ((plcs w).map (2 ^ ·)).sum = w := by
  rw [plcs_range hw, places_sum, Nat.mod_eq_of_lt hw]
theorem popc_xor {a b : Nat} : popc 24 (a ^^^ b) + 2 * popc 24 (a &&& b) = popc 24 a + popc 24 b := by
  rw [popc_ones, popc_ones, popc_ones, popc_ones]
  exact ones_sum 24 a b
theorem plcs_asc (w : Nat) : (plcs w).Pairwise (· < ·) := List.Pairwise.filter _ List.pairwise_lt_range
theorem plcs_lt {w l : Nat} (hw : w < 2 ^ l) : ∀ p ∈ plcs w, p < l := fun p hp => by
  rw [plcs_range hw] at hp
  exact List.mem_range.mp (List.mem_filter.mp hp).1
end Law
set_option Elab.async false
set_option linter.all false
set_option maxRecDepth 100000
set_option maxHeartbeats 1000000
namespace Law
open Mi Gf
section
variable {n : Nat} {h : Hh}
theorem eqL_iv : ∀ ws : List Nat, eqL (ws.map iv) (ws.map iv) = true
  | [] => by simp [eqL]
  | w :: ws => by
    rw [List.map_cons]
    unfold eqL
    rw [show eqV (iv w) (iv w) = true from by unfold iv; simp [eqV]]
    exact eqL_iv ws
theorem tup_ne (ws : List Nat) : cmpV .ne h (.tup (ws.map iv)) (.tup (ws.map iv)) = some false := by
  show (match (match plL (ws.map iv) 19 with
    | true => match plL (ws.map iv) 19 with
      | true => some (eqV (.tup (ws.map iv)) (.tup (ws.map iv)))
      | false => none
    | false => none) with
    | some b => some (!b)
    | none => none) = _
  rw [plL_iv]
  show some (!(eqV (.tup (ws.map iv)) (.tup (ws.map iv)))) = _
  rw [show eqV (.tup (ws.map iv)) (.tup (ws.map iv)) = true by unfold eqV; exact eqL_iv ws]
  rfl
theorem iv_nes (a : Nat) : cmpV .ne h (iv a) (iv a) = some false := by
  rw [iv_ne]
  simp
theorem iv_dif {a b : Nat} (hb : b ≤ a) : binV .sub h (iv a) (iv b) = some (iv (a - b)) := by
  show some (Vl.int ((a : Int) - b)) = some (Vl.int ((a - b : Nat) : Int))
  congr 2
  omega
section
variable {l a b : Nat} {x2 x3 x4 x7 x8 : Option Vl} {P : Option Vl}
theorem wr1 (hl : l ≤ 24) (ha : a < 2 ^ l) : evS GG (run GG FF (n + 4)) (.ifs (.or (.cmp .ne (.call 23 (.acons (.var 5) .anil)) (.call 34 (.acons (.var 5) .anil))) (.or (.cmp .ne (.call 25 (.acons (.var 5) .anil)) (.var 2)) (.cmp .ne (.call 26 (.acons (.var 2) .anil)) (.var 5)))) (.ret (.bl false)) .skip) [P, some (iv l), some (.tup ((plcs a).map iv)), x3, x4, some (iv a), some (iv b), x7, x8] h = .ok (.nx [P, some (iv l), some (.tup ((plcs a).map iv)), x3, x4, some (iv a), some (iv b), x7, x8]) h := by
  have ha24 : a < 2 ^ 24 := Nat.lt_of_lt_of_le ha (Nat.pow_le_pow_right (by decide) hl)
  have e26 := r26 (n := n) (h := h) (plcs a) (fun p hp => by have := plcs_lt ha24 p hp; omega) (plcs_asc a) (by
    have h1 : (plcs a).length ≤ bits a := by
      have := List.length_filter_le (fun p => a.testBit p) (List.range (bits a))
      rwa [List.length_range] at this
    have := bits_le' ha24
    omega)
  rw [plcs_sum ha24] at e26
  have q1 : cmpV .ne h (iv (popc 24 a)) (iv (popc 24 a)) = some false := iv_nes _
  have q2 : cmpV .ne h (iv a) (iv a) = some false := iv_nes _
  have big : decide (a ≠ a) = false := by simp
  have big2 : decide (popc 24 a ≠ popc 24 a) = false := by simp
  simp only [evS, evE, evA, evF, evW, part1, part0, evC, List.getElem?_cons_zero, List.getElem?_cons_succ, putE, List.set_cons_zero, List.set_cons_succ, tgV, putEs, wipeE, walkC, walkF, bnd_ok', lift_some, bndS_nx, bndS_rt, iv_xor, iv_and, iv_add, iv_axor, iv_aadd, iv_eq, iv_ne, iv_lt, iv_gt, iv_le, tru_bl, int0, int1, int2, r23 a ha24, wt_popc ha24, r34 (n := n + 3) a ha24, r25 a ha24, tup_ne, e26, big, big2, decide_true, Bool.not_true]
theorem wr2 (hl : l ≤ 24) (ha : a < 2 ^ l) (hb : b < 2 ^ l) : evS GG (run GG FF (n + 4)) (.ifs (.or (.cmp .ne (.call 24 (.acons (.var 5) (.acons (.var 6) .anil))) (.call 35 (.acons (.var 5) (.acons (.var 6) .anil)))) (.cmp .ne (.call 24 (.acons (.var 5) (.acons (.var 5) .anil))) (.bin .mod (.call 23 (.acons (.var 5) .anil)) (.int 2)))) (.ret (.bl false)) .skip) [P, some (iv l), x2, x3, x4, some (iv a), some (iv b), x7, x8] h = .ok (.nx [P, some (iv l), x2, x3, x4, some (iv a), some (iv b), x7, x8]) h := by
  have ha24 : a < 2 ^ 24 := Nat.lt_of_lt_of_le ha (Nat.pow_le_pow_right (by decide) hl)
  have hb24 : b < 2 ^ 24 := Nat.lt_of_lt_of_le hb (Nat.pow_le_pow_right (by decide) hl)
  have hab : a &&& b < 2 ^ 24 := Nat.lt_of_le_of_lt Nat.and_le_left ha24
  simp only [evS, evE, evA, evF, evW, part1, part0, evC, List.getElem?_cons_zero, List.getElem?_cons_succ, putE, List.set_cons_zero, List.set_cons_succ, tgV, putEs, wipeE, walkC, walkF, bnd_ok', lift_some, bndS_nx, bndS_rt, iv_xor, iv_and, iv_add, iv_axor, iv_aadd, iv_eq, iv_ne, iv_lt, iv_gt, iv_le, tru_bl, int0, int1, int2, r24 a b ha24 hb24, r24 a a ha24 ha24, wt_popc hab, Nat.and_self, wt_popc ha24, r35 (n := n + 2) a b ha24, r23 a ha24, iv_mod (show 0 < 2 by decide), decide_true, Bool.not_true]
theorem wr3 (hl : l ≤ 24) (ha : a < 2 ^ l) (hb : b < 2 ^ l) : evS GG (run GG FF (n + 4)) (.ifs (.cmp .ne (.call 23 (.acons (.bin .xor (.var 5) (.var 6)) .anil)) (.bin .sub (.bin .add (.call 23 (.acons (.var 5) .anil)) (.call 23 (.acons (.var 6) .anil))) (.bin .mul (.int 2) (.call 34 (.acons (.bin .and (.var 5) (.var 6)) .anil))))) (.ret (.bl false)) .skip) [P, some (iv l), x2, x3, x4, some (iv a), some (iv b), x7, x8] h = .ok (.nx [P, some (iv l), x2, x3, x4, some (iv a), some (iv b), x7, x8]) h := by
  have ha24 : a < 2 ^ 24 := Nat.lt_of_lt_of_le ha (Nat.pow_le_pow_right (by decide) hl)
  have hb24 : b < 2 ^ 24 := Nat.lt_of_lt_of_le hb (Nat.pow_le_pow_right (by decide) hl)
  have hab : a &&& b < 2 ^ 24 := Nat.lt_of_le_of_lt Nat.and_le_left ha24
  have hx : a ^^^ b < 2 ^ 24 := Nat.xor_lt_two_pow ha24 hb24
  have e := popc_xor (a := a) (b := b)
  have e2 : popc 24 a + popc 24 b - 2 * popc 24 (a &&& b) = popc 24 (a ^^^ b) := by omega
  simp only [evS, evE, evA, evF, evW, part1, part0, evC, List.getElem?_cons_zero, List.getElem?_cons_succ, putE, List.set_cons_zero, List.set_cons_succ, tgV, putEs, wipeE, walkC, walkF, bnd_ok', lift_some, bndS_nx, bndS_rt, iv_xor, iv_and, iv_add, iv_axor, iv_aadd, iv_eq, iv_ne, iv_lt, iv_gt, iv_le, tru_bl, int0, int1, int2, r23 a ha24, r23 b hb24, r23 _ hx, wt_popc hx, wt_popc ha24, wt_popc hb24, r34 (n := n + 3) _ hab, iv_mul (Or.inl (show 2 < 18446744073709551616 by decide)), iv_dif (show 2 * popc 24 (a &&& b) ≤ popc 24 a + popc 24 b by omega), e2, decide_true, Bool.not_true]
end
end
end Law
set_option Elab.async false
set_option linter.all false
set_option maxRecDepth 100000
set_option maxHeartbeats 1000000
namespace Law
open Mi Gf
def kv (u : Nat) : Vl × Vl := (iv u.log2, iv u)
def KV (us : List Nat) : List (Vl × Vl) := us.map kv
def getH (p : Nat) : List Nat → Option Nat
  | [] => none
  | u :: r => if u.log2 = p then some u else getH p r
def repH (us : List Nat) (w : Nat) : List Nat := us.map fun u => if u.log2 = w.log2 then w else u
theorem keyEq_iv (a b : Nat) : keyEq (iv a) (iv b) = decide (a = b) := by
  show ((a : Int) == (b : Int)) = _
  by_cases e : a = b
  · subst e; simp
  · rw [decide_eq_false e, beq_eq_false_iff_ne]; omega
theorem dget_KV (p : Nat) : ∀ us : List Nat, dget (iv p) (KV us) = (getH p us).map iv
  | [] => rfl
  | u :: r => by
    show (match keyEq (iv u.log2) (iv p) with
      | true => some (iv u)
      | false => dget (iv p) (KV r)) = _
    rw [keyEq_iv, dget_KV p r, show getH p (u :: r) = if u.log2 = p then some u else getH p r from rfl]
    by_cases e : u.log2 = p
    · rw [decide_eq_true e, if_pos e]
      rfl
    · rw [decide_eq_false e, if_neg e]
theorem getH_some {p v : Nat} : ∀ {us : List Nat}, getH p us = some v → v ∈ us ∧ v.log2 = p
  | [], h => by cases h
  | u :: r, h => by
    rw [show getH p (u :: r) = if u.log2 = p then some u else getH p r from rfl] at h
    by_cases e : u.log2 = p
    · rw [if_pos e] at h
      injection h with h
      subst h
      exact ⟨List.mem_cons_self, e⟩
    · rw [if_neg e] at h
      obtain ⟨a, b⟩ := getH_some h
      exact ⟨List.mem_cons_of_mem _ a, b⟩
theorem getH_none {p : Nat} : ∀ {us : List Nat}, getH p us = none → ∀ u ∈ us, u.log2 ≠ p
  | [], _, _, hu => by cases hu
  | v :: r, h, u, hu => by
    rw [show getH p (v :: r) = if v.log2 = p then some v else getH p r from rfl] at h
    by_cases e : v.log2 = p
    · rw [if_pos e] at h
      cases h
    · rw [if_neg e] at h
      rcases List.mem_cons.mp hu with rfl | hu
      · exact e
      · exact getH_none h u hu
theorem getH_of {p u : Nat} {us : List Nat} (hu : u ∈ us) (e : u.log2 = p) : ∃ v, getH p us = some v := by
  cases h : getH p us with
  | some v => exact ⟨v, rfl⟩
  | none => exact absurd e (getH_none h u hu)
theorem drep_KV (w : Nat) : ∀ us : List Nat, drep (iv w.log2) (iv w) (KV us) = KV (repH us w)
  | [] => rfl
  | u :: r => by
    show (match keyEq (iv u.log2) (iv w.log2) with
      | true => (iv u.log2, iv w) :: drep (iv w.log2) (iv w) (KV r)
      | false => (iv u.log2, iv u) :: drep (iv w.log2) (iv w) (KV r)) = _
    rw [keyEq_iv, drep_KV w r]
    unfold repH KV
    rw [List.map_cons, List.map_cons]
    by_cases e : u.log2 = w.log2
    · rw [decide_eq_true e, if_pos e]
      dsimp only
      rw [e]
      rfl
    · rw [decide_eq_false e, if_neg e]
      rfl
theorem dput_new {w : Nat} {us : List Nat} (h : getH w.log2 us = none) : dput (iv w.log2) (iv w) (KV us) = KV (us ++ [w]) := by
  unfold dput
  rw [dget_KV, h]
  unfold KV
  rw [List.map_append]
  rfl
theorem dput_old {w v : Nat} {us : List Nat} (h : getH w.log2 us = some v) : dput (iv w.log2) (iv w) (KV us) = KV (repH us w) := by
  unfold dput
  rw [dget_KV, h]
  exact drep_KV w us
structure Held (us : List Nat) : Prop where
  nd : (us.map Nat.log2).Nodup
  pos : ∀ u ∈ us, u ≠ 0
  lt : ∀ u ∈ us, u < 2 ^ 24
theorem nd_inj : ∀ {us : List Nat}, (us.map Nat.log2).Nodup → ∀ u ∈ us, ∀ v ∈ us, u.log2 = v.log2 → u = v
  | [], _, _, h, _, _, _ => by cases h
  | a :: r, nd, u, hu, v, hv, e => by
    rw [List.map_cons, List.nodup_cons] at nd
    rcases List.mem_cons.mp hu with z | hu2 <;> rcases List.mem_cons.mp hv with y | hv2
    · rw [z, y]
    · subst z
      exact absurd (List.mem_map.mpr ⟨v, hv2, e.symm⟩) nd.1
    · subst y
      exact absurd (List.mem_map.mpr ⟨u, hu2, e⟩) nd.1
    · exact nd_inj nd.2 u hu2 v hv2 e
theorem Held.inj {us : List Nat} (H : Held us) {u v : Nat} (hu : u ∈ us) (hv : v ∈ us) (e : u.log2 = v.log2) : u = v := nd_inj H.nd u hu v hv e
theorem mem_repH {us : List Nat} {w x : Nat} (h : x ∈ repH us w) : (x = w ∧ ∃ u ∈ us, u.log2 = w.log2) ∨ (x ∈ us ∧ x.log2 ≠ w.log2) := by
  obtain ⟨u, hu, e⟩ := List.mem_map.mp h
  by_cases z : u.log2 = w.log2
  · rw [if_pos z] at e
    exact .inl ⟨e.symm, u, hu, z⟩
  · rw [if_neg z] at e
    subst e
    exact .inr ⟨hu, z⟩
theorem repH_self {us : List Nat} {w u : Nat} (hu : u ∈ us) (e : u.log2 = w.log2) : w ∈ repH us w := List.mem_map.mpr ⟨u, hu, if_pos e⟩
theorem repH_ne {us : List Nat} {w u : Nat} (hu : u ∈ us) (e : u.log2 ≠ w.log2) : u ∈ repH us w := List.mem_map.mpr ⟨u, hu, if_neg e⟩
theorem repH_log (us : List Nat) (w : Nat) : (repH us w).map Nat.log2 = us.map Nat.log2 := by
  unfold repH
  rw [List.map_map]
  apply List.map_congr_left
  intro u _
  show Nat.log2 (if u.log2 = w.log2 then w else u) = _
  split
  · rename_i e
    exact e.symm
  · rfl
theorem Held.rep {us : List Nat} (H : Held us) {w : Nat} (h0 : w ≠ 0) (h1 : w < 2 ^ 24) : Held (repH us w) := by
  refine ⟨by rw [repH_log]; exact H.nd, fun x hx => ?_, fun x hx => ?_⟩
  · rcases mem_repH hx with ⟨rfl, _⟩ | ⟨h, _⟩
    · exact h0
    · exact H.pos x h
  · rcases mem_repH hx with ⟨rfl, _⟩ | ⟨h, _⟩
    · exact h1
    · exact H.lt x h
theorem Held.add {us : List Nat} (H : Held us) {w : Nat} (h0 : w ≠ 0) (h1 : w < 2 ^ 24) (h : getH w.log2 us = none) : Held (us ++ [w]) := by
  refine ⟨?_, fun x hx => ?_, fun x hx => ?_⟩
  · rw [List.map_append, List.nodup_append]
    refine ⟨H.nd, by simp, fun a ha b hb z => ?_⟩
    obtain ⟨u, hu, rfl⟩ := List.mem_map.mp ha
    rw [List.map_singleton, List.mem_singleton] at hb
    exact getH_none h u hu (z.trans hb)
  · rcases List.mem_append.mp hx with z | z
    · exact H.pos x z
    · rw [List.mem_singleton.mp z]; exact h0
  · rcases List.mem_append.mp hx with z | z
    · exact H.lt x z
    · rw [List.mem_singleton.mp z]; exact h1
theorem repH_same {us : List Nat} (H : Held us) {u a w : Nat} (hu : u ∈ us) (ha : a ∈ us) (hw : w = u ^^^ a) (el : w.log2 = u.log2) (hn : a.log2 ≠ u.log2) : Same (repH us w) us := by
  have hs : w ∈ repH us w := repH_self hu el.symm
  have hk : a ∈ repH us w := repH_ne ha (by rw [el]; exact hn)
  refine same_of (fun x hx => ?_) fun x hx => ?_
  · rcases mem_repH hx with ⟨rfl, _⟩ | ⟨h, _⟩
    · rw [hw]
      exact sp_xor (sp_mem hu) (sp_mem ha)
    · exact sp_mem h
  · by_cases z : x.log2 = w.log2
    · have : x = u := H.inj hx hu (z.trans el)
      subst this
      have := sp_xor (sp_mem hs) (sp_mem hk)
      rw [hw, xor_cancel, ← hw] at this
      exact this
    · exact sp_mem (repH_ne hx z)
theorem xor_head {a b : Nat} (ha : a ≠ 0) (hb : b ≠ 0) (e : a.log2 = b.log2) : a ^^^ b < 2 ^ a.log2 := by
  apply Nat.lt_pow_two_of_testBit
  intro i hi
  rw [Nat.testBit_xor]
  rcases Nat.eq_or_lt_of_le hi with z | z
  · rw [← z, tb_head ha, e, tb_head hb]
    rfl
  · rw [tb_above z, tb_above (by rw [← e]; exact z)]
    rfl
theorem xor_log {a b : Nat} (hb : b ≠ 0) (e : a.log2 < b.log2) : (b ^^^ a).log2 = b.log2 := by
  refine log2_of ?_ fun i hi => ?_
  · rw [Nat.testBit_xor, tb_head hb, tb_above e]
    rfl
  · rw [Nat.testBit_xor, tb_above hi, tb_above (Nat.lt_trans e hi)]
    rfl
theorem same_app {us vs : List Nat} (S : Same us vs) (xs : List Nat) : Same (us ++ xs) (vs ++ xs) := by
  refine same_of (fun w hw => ?_) fun w hw => ?_
  · rcases List.mem_append.mp hw with z | z
    · exact sp_sub (fun y hy => sp_mem (List.mem_append_left _ hy)) ((S w).mp (sp_mem z))
    · exact sp_mem (List.mem_append_right _ z)
  · rcases List.mem_append.mp hw with z | z
    · exact sp_sub (fun y hy => sp_mem (List.mem_append_left _ hy)) ((S w).mpr (sp_mem z))
    · exact sp_mem (List.mem_append_right _ z)
theorem same_left {us : List Nat} {w w' : Nat} (h : Sp us (w' ^^^ w)) : Same (us ++ [w']) (us ++ [w]) := by
  have h1 : ∀ {x}, Sp us (w' ^^^ w) → Sp (us ++ [x]) (w' ^^^ w) := fun h => sp_sub (fun y hy => sp_mem (List.mem_append_left _ hy)) h
  have m : ∀ x, Sp (us ++ [x]) x := fun x => sp_mem (List.mem_append_right _ (List.mem_singleton.mpr rfl))
  refine same_of (fun x hx => ?_) fun x hx => ?_
  · rcases List.mem_append.mp hx with z | z
    · exact sp_mem (List.mem_append_left _ z)
    · rw [List.mem_singleton.mp z]
      have := sp_xor (h1 h) (m w)
      rwa [xor_cancel] at this
  · rcases List.mem_append.mp hx with z | z
    · exact sp_mem (List.mem_append_left _ z)
    · rw [List.mem_singleton.mp z]
      have := sp_xor (h1 (x := w') h) (m w')
      rwa [Nat.xor_comm w' w, xor_cancel] at this
theorem same_none {us : List Nat} {w : Nat} (h : Sp us w) : Same us (us ++ [w]) := by
  refine same_of (fun x hx => sp_mem (List.mem_append_left _ hx)) fun x hx => ?_
  rcases List.mem_append.mp hx with z | z
  · exact sp_mem z
  · rw [List.mem_singleton.mp z]; exact h
def Off (us : List Nat) (p : Nat) : Prop := ∀ u ∈ us, p < u.log2 → u.testBit p = false
def byHead (us : List Nat) : List Nat := ((sortN (us.map Nat.log2)).map fun p => (getH p us).getD 0).reverse
theorem mem_byHead {us : List Nat} (H : Held us) (x : Nat) : x ∈ byHead us ↔ x ∈ us := by
  unfold byHead
  rw [List.mem_reverse, List.mem_map]
  constructor
  · rintro ⟨p, hp, rfl⟩
    obtain ⟨u, hu, rfl⟩ := List.mem_map.mp ((sortN_perm _).mem_iff.mp hp)
    obtain ⟨v, hv⟩ := getH_of hu rfl
    rw [hv]
    exact (getH_some hv).1
  · intro hx
    refine ⟨x.log2, (sortN_perm _).mem_iff.mpr (List.mem_map.mpr ⟨x, hx, rfl⟩), ?_⟩
    obtain ⟨v, hv⟩ := getH_of hx rfl
    rw [hv]
    exact H.inj (getH_some hv).1 hx (getH_some hv).2
theorem lt_of_log {a b : Nat} (hb : b ≠ 0) (h : a.log2 < b.log2) : a < b := by
  have h1 : a < 2 ^ (a.log2 + 1) := Nat.lt_log2_self
  have h2 : 2 ^ b.log2 ≤ b := Nat.log2_self_le hb
  exact Nat.lt_of_lt_of_le h1 (Nat.le_trans (Nat.pow_le_pow_right (by decide) h) h2)
theorem byHead_bas {us : List Nat} (H : Held us) (O : ∀ u ∈ us, Off us u.log2) : Bas (byHead us) ∧ Same (byHead us) us := by
  have ord : (byHead us).Pairwise (· > ·) := by
    unfold byHead
    rw [List.pairwise_reverse, List.pairwise_map]
    have nd : (sortN (us.map Nat.log2)).Nodup := (sortN_perm _).nodup_iff.mpr H.nd
    refine List.Pairwise.imp_of_mem ?_ ((sortN_sorted (us.map Nat.log2)).and nd)
    intro a b ha hb hab
    obtain ⟨u, hu, eu⟩ := List.mem_map.mp ((sortN_perm _).mem_iff.mp ha)
    obtain ⟨v, hv, ev⟩ := List.mem_map.mp ((sortN_perm _).mem_iff.mp hb)
    obtain ⟨u', hu'⟩ := getH_of hu eu
    obtain ⟨v', hv'⟩ := getH_of hv ev
    show (getH b us).getD 0 > (getH a us).getD 0
    rw [hu', hv']
    refine lt_of_log (H.pos v' (getH_some hv').1) (?_ : u'.log2 < v'.log2)
    rw [(getH_some hu').2, (getH_some hv').2]
    obtain ⟨h1, h2⟩ := hab
    omega
  refine ⟨⟨⟨fun b hb => H.pos b ((mem_byHead H b).mp hb), fun b hb c hc e => ?_, ?_⟩, ord⟩, same_of (fun x hx => sp_mem ((mem_byHead H x).mp hx)) fun x hx => sp_mem ((mem_byHead H x).mpr hx)⟩
  · have hb' := (mem_byHead H b).mp hb
    have hc' := (mem_byHead H c).mp hc
    by_cases z : b.log2 < c.log2
    · rw [O b hb' c hc' z] at e
      cases e
    · by_cases z2 : c.log2 < b.log2
      · rw [tb_above z2] at e
        cases e
      · exact H.inj hc' hb' (by omega)
  · exact ord.imp fun h => by omega
end Law
set_option Elab.async false
set_option linter.all false
set_option maxRecDepth 100000
set_option maxHeartbeats 1000000
namespace Law
open Mi Gf
section
variable {G : GT} {cf : CF}
theorem ev_seq {a b : St} {env : Env} {h : Hh} : evS G cf (.seq a b) env h = bndS (evS G cf a env h) fun env h => evS G cf b env h := rfl
def turnF (G : GT) (cf : CF) (tg : Tg) (b : St) (x : Vl) (env : Env) (h : Hh) : R Oc := match tgV tg x env with
  | some env' => evS G cf b env' h
  | none => .bad
theorem ev_fors {tg : Tg} {it : Ex} {b : St} {env : Env} {h : Hh} : evS G cf (.fors tg it b) env h = bnd (evW G cf it env h) fun w h => walkF (turnF G cf tg b) w env h := rfl
def testW (G : GT) (cf : CF) (c : Ex) (env : Env) (h : Hh) : R Bool := bnd (evE G cf c env h) fun x h => lift (truth h x) h
def bodyW (G : GT) (cf : CF) (b : St) (env : Env) (h : Hh) : R Oc := evS G cf b env h
theorem ev_whiles {c : Ex} {b : St} {env : Env} {h : Hh} : evS G cf (.whiles c b) env h = whileL (testW G cf c) (bodyW G cf b) fuelW env h := rfl
theorem forL_pre {α : Type} {turn : Vl → Env → Hh → R Oc} {g : α → Vl} (I : List α → Env → Hh → Prop) : ∀ {post pre xs : List α} {env : Env} {h : Hh}, xs = pre ++ post → I pre env h →
    (∀ pre x post, xs = pre ++ x :: post → ∀ env h, I pre env h → ∃ env' h', turn (g x) env h = .ok (.nx env') h' ∧ I (pre ++ [x]) env' h') → ∃ env' h', forL turn (post.map g) env h = .ok (.nx env') h' ∧ I xs env' h'
  | [], pre, xs, env, h, e, i, _ => ⟨env, h, rfl, by rw [e, List.append_nil]; exact i⟩
  | x :: post, pre, xs, env, h, e, i, k => by
    obtain ⟨env1, h1, e1, i1⟩ := k pre x post e env h i
    obtain ⟨env2, h2, e2, i2⟩ := forL_pre I (post := post) (pre := pre ++ [x]) (xs := xs) (by rw [e, List.append_assoc]; rfl) i1 k
    refine ⟨env2, h2, ?_, i2⟩
    show (match turn (g x) env h with
      | .ok (.nx env1) h1 => forL turn (post.map g) env1 h1
      | .ok (.ct env1) h1 => forL turn (post.map g) env1 h1
      | .ok (.bk env1) h1 => .ok (.nx env1) h1
      | .ok (.rt v) h1 => .ok (.rt v) h1
      | .exc c p h1 => .exc c p h1
      | .bad => .bad) = _
    rw [e1]
    exact e2
theorem for_pre {α : Type} {tg : Tg} {b : St} {g : α → Vl} {xs : List α} {env : Env} {h : Hh} (I : List α → Env → Hh → Prop) (i : I [] env h)
    (k : ∀ pre x post, xs = pre ++ x :: post → ∀ env h, I pre env h → ∃ env1 env' h', tgV tg (g x) env = some env1 ∧ evS G cf b env1 h = .ok (.nx env') h' ∧ I (pre ++ [x]) env' h') :
    ∃ env' h', forL (turnF G cf tg b) (xs.map g) env h = .ok (.nx env') h' ∧ I xs env' h' :=
  forL_pre I (pre := []) rfl i fun pre x post e env h i => by
    obtain ⟨env1, env', h', e1, e2, i2⟩ := k pre x post e env h i
    refine ⟨env', h', ?_, i2⟩
    unfold turnF
    rw [e1]
    exact e2
end
section
variable {n : Nat} {h : Hh}
theorem cmp_in {x y : Vl} : cmpV .isin h x y = isIn h x y := rfl
theorem lst0 {kvs : List (Vl × Vl)} : lstOf (h ++ [.dct kvs]) (.ref h.length) = none := by
  show (match (h ++ [Ob.dct kvs])[h.length]? with
    | some (.lst xs) => some xs
    | _ => none) = _
  rw [get_last]
theorem dkeys_KV (us : List Nat) : dkeys (h ++ [.dct (KV us)]) (.ref h.length) = some ((us.map Nat.log2).map fun w : Nat => (w : Int)) := by
  show (match (h ++ [Ob.dct (KV us)])[h.length]? with
    | some (.dct kvs) => intsOf (kvs.map (fun x : Vl × Vl => x.1))
    | _ => none) = _
  rw [get_last]
  dsimp only
  have : (KV us).map (fun x : Vl × Vl => x.1) = (us.map Nat.log2).map iv := by
    unfold KV
    rw [List.map_map, List.map_map]
    rfl
  rw [this, ints_iv]
theorem in_KV (p : Nat) (us : List Nat) : isIn (h ++ [.dct (KV us)]) (iv p) (.ref h.length) = some (getH p us).isSome := by
  show (match (h ++ [Ob.dct (KV us)])[h.length]? with
    | some (.dct kvs) => if keyOk (iv p) then some (dget (iv p) kvs).isSome else none
    | some (.lst xs) => if flat (iv p) && xs.all flat then some (inB (iv p) xs) else none
    | _ => none) = _
  rw [get_last]
  dsimp only
  rw [if_pos (show keyOk (iv p) = true from rfl), dget_KV]
  cases getH p us <;> rfl
theorem sub_KV {p v : Nat} {us : List Nat} (e : getH p us = some v) : subV (h ++ [.dct (KV us)]) (.ref h.length) (iv p) = some (iv v) := by
  show (match (h ++ [Ob.dct (KV us)])[h.length]? with
    | some (.lst xs) => match Mi.ixN xs.length (p : Int) with
      | some j => xs[j]?
      | none => none
    | some (.dct kvs) => dget (iv p) kvs
    | _ => none) = _
  rw [get_last]
  dsimp only
  rw [dget_KV, e]
  rfl
theorem set_KV {us vs : List Nat} {w p : Nat} (hp : p = w.log2) (e : dput (iv w.log2) (iv w) (KV us) = KV vs) (hz : us.length < line) : setV (h ++ [.dct (KV us)]) (.ref h.length) (iv p) (iv w) = some (h ++ [.dct (KV vs)]) := by
  subst hp
  show (match (h ++ [Ob.dct (KV us)])[h.length]? with
    | some (.lst xs) => match Mi.ixN xs.length (w.log2 : Int) with
      | some j => some ((h ++ [Ob.dct (KV us)]).set h.length (.lst (xs.set j (iv w))))
      | none => none
    | some (.dct kvs) => match keyOk (iv w.log2) with
      | true => if kvs.length < line then some ((h ++ [Ob.dct (KV us)]).set h.length (.dct (dput (iv w.log2) (iv w) kvs))) else none
      | false => none
    | _ => none) = _
  rw [get_last]
  dsimp only
  rw [show keyOk (iv w.log2) = true from rfl]
  dsimp only
  rw [if_pos (by unfold KV; rw [List.length_map]; exact hz), e, set_last]
theorem end_tup (o : Ob) (ws : List Nat) (hw : wfH h.length h = true) : endF true h.length (.ok (.rt (.tup (ws.map iv))) (h ++ [o])) = .ok (.tup (ws.map iv)) h := by
  have hd : decide ((h ++ [o]).length ≤ h.length) = false := by
    rw [decide_eq_false]
    rw [List.length_append, List.length_singleton]
    omega
  have hf : frV (h ++ [o]) h.length 30 (.tup (ws.map iv)) = some (.tup (ws.map iv)) := by
    show (match mapO (frV (h ++ [o]) h.length 29) (ws.map iv) with
      | some l => some (Vl.tup l)
      | none => none) = _
    rw [mapO_iv _ _ 28]
  unfold endF fin
  dsimp only
  rw [hd]
  dsimp only
  rw [hf]
  dsimp only
  rw [show wfV h.length (.tup (ws.map iv)) = true from by simp only [wfV, wfL_iv], take_app, hw]
theorem lb_while {us : List Nat} (H : Held us) {t : Option Vl} : ∀ (k m w : Nat), w < 2 ^ k → k ≤ 24 → k < m →
    ∃ w', w' < 2 ^ 24 ∧ Sp us (w' ^^^ w) ∧ (w' ≠ 0 → getH w'.log2 us = none) ∧ whileL (testW GG (run GG FF (n + 1)) (.and (.cmp .gt (.var 2) (.int 0)) (.cmp .isin (.call 36 (.acons (.var 2) .anil)) (.var 1)))) (bodyW GG (run GG FF (n + 1)) (.set 2 (.bin .xor (.var 2) (.sub (.var 1) (.call 36 (.acons (.var 2) .anil)))))) m [t, some (.ref h.length), some (iv w), none, none] (h ++ [.dct (KV us)]) = .ok (.nx [t, some (.ref h.length), some (iv w'), none, none]) (h ++ [.dct (KV us)])
  | k, 0, w, _, _, hm => by omega
  | k, m + 1, w, hw, hk, hm => by
    have hw24 : w < 2 ^ 24 := Nat.lt_of_lt_of_le hw (Nat.pow_le_pow_right (by decide) hk)
    by_cases hz : w = 0
    · refine ⟨w, hw24, by rw [Nat.xor_self]; exact sp_zero us, fun z => absurd hz z, while_f ?_⟩
      unfold testW
      subst hz
      simp only [evS, evE, evA, evF, evW, part1, part0, evC, List.getElem?_cons_zero, List.getElem?_cons_succ, putE, List.set_cons_zero, List.set_cons_succ, tgV, putEs, wipeE, walkC, walkF, bnd_ok', lift_some, bndS_nx, bndS_rt, iv_xor, iv_and, iv_add, iv_axor, iv_aadd, iv_eq, iv_ne, iv_lt, iv_gt, iv_le, tru_bl, int0, int1, int2, decide_eq_false (Nat.lt_irrefl 0)]
    · have hpos : 0 < w := Nat.pos_of_ne_zero hz
      cases hg : getH w.log2 us with
      | none =>
        refine ⟨w, hw24, by rw [Nat.xor_self]; exact sp_zero us, fun _ => hg, while_f ?_⟩
        unfold testW
        simp only [evS, evE, evA, evF, evW, part1, part0, evC, List.getElem?_cons_zero, List.getElem?_cons_succ, putE, List.set_cons_zero, List.set_cons_succ, tgV, putEs, wipeE, walkC, walkF, bnd_ok', lift_some, bndS_nx, bndS_rt, iv_xor, iv_and, iv_add, iv_axor, iv_aadd, iv_eq, iv_ne, iv_lt, iv_gt, iv_le, tru_bl, int0, int1, int2, decide_eq_true hpos, r36 w hw24 hz, cmp_in, in_KV, hg, Option.isSome_none]
      | some u =>
        obtain ⟨hu, eu⟩ := getH_some hg
        have hlt : w ^^^ u < 2 ^ w.log2 := xor_head hz (H.pos u hu) eu.symm
        have hl : w.log2 < k := (Nat.log2_lt hz).mpr hw
        obtain ⟨w', h1, h2, h3, h4⟩ := lb_while (t := t) H w.log2 m (w ^^^ u) hlt (by omega) (by omega)
        refine ⟨w', h1, ?_, h3, ?_⟩
        · have := sp_xor h2 (sp_mem hu)
          rwa [Nat.xor_assoc, xor_cancel] at this
        · refine (while_t (h1 := h ++ [.dct (KV us)]) ?_ ?_).trans h4
          · unfold testW
            simp only [evS, evE, evA, evF, evW, part1, part0, evC, List.getElem?_cons_zero, List.getElem?_cons_succ, putE, List.set_cons_zero, List.set_cons_succ, tgV, putEs, wipeE, walkC, walkF, bnd_ok', lift_some, bndS_nx, bndS_rt, iv_xor, iv_and, iv_add, iv_axor, iv_aadd, iv_eq, iv_ne, iv_lt, iv_gt, iv_le, tru_bl, int0, int1, int2, decide_eq_true hpos, r36 w hw24 hz, cmp_in, in_KV, hg, Option.isSome_some]
          · unfold bodyW
            simp only [evS, evE, evA, evF, evW, part1, part0, evC, List.getElem?_cons_zero, List.getElem?_cons_succ, putE, List.set_cons_zero, List.set_cons_succ, tgV, putEs, wipeE, walkC, walkF, bnd_ok', lift_some, bndS_nx, bndS_rt, iv_xor, iv_and, iv_add, iv_axor, iv_aadd, iv_eq, iv_ne, iv_lt, iv_gt, iv_le, tru_bl, int0, int1, int2, r36 w hw24 hz, sub_KV hg]
theorem srt_KV {us : List Nat} {cf : CF} {env : Env} (e : env[1]? = some (some (.ref h.length))) (hz : us.length < 64) : evE GG cf (.fz (.srt false (.var 1))) env (h ++ [.dct (KV us)]) = .ok (.lst ((sortN (us.map Nat.log2)).map iv)) (h ++ [.dct (KV us)]) := by
  have hd : decide (((us.map Nat.log2).map fun w : Nat => (w : Int)).length < 64) = true := by
    rw [List.length_map, List.length_map]
    exact decide_eq_true hz
  simp only [evS, evE, evA, evF, evW, part1, part0, evC, List.getElem?_cons_zero, List.getElem?_cons_succ, putE, List.set_cons_zero, List.set_cons_succ, tgV, putEs, wipeE, walkC, walkF, bnd_ok', lift_some, bndS_nx, bndS_rt, iv_xor, iv_and, iv_add, iv_axor, iv_aadd, iv_eq, iv_ne, iv_lt, iv_gt, iv_le, tru_bl, int0, int1, int2, e, lst0, dkeys_KV, hd, srt_asc]
theorem over_KV {us : List Nat} {cf : CF} {env : Env} (e : env[1]? = some (some (.ref h.length))) (hz : us.length < 64) : evW GG cf (.over (.fz (.srt false (.var 1)))) env (h ++ [.dct (KV us)]) = .ok (.its ((sortN (us.map Nat.log2)).map iv)) (h ++ [.dct (KV us)]) := by
  show bnd (evE GG cf (.fz (.srt false (.var 1))) env (h ++ [.dct (KV us)])) _ = _
  rw [srt_KV e hz]
  rfl
theorem lb_first {ws : List Nat} (hw : ∀ w ∈ ws, w < 2 ^ 24) (hl : ws.length ≤ 63) : ∃ (us : List Nat) (o : Option Vl), Held us ∧ Same us ws ∧ us.length ≤ ws.length ∧
    evS GG (run GG FF (n + 1)) (.fors (.n 2) (.over (.var 0)) (.seq (.whiles (.and (.cmp .gt (.var 2) (.int 0)) (.cmp .isin (.call 36 (.acons (.var 2) .anil)) (.var 1))) (.set 2 (.bin .xor (.var 2) (.sub (.var 1) (.call 36 (.acons (.var 2) .anil)))))) (.ifs (.cmp .gt (.var 2) (.int 0)) (.sets (.var 1) (.call 36 (.acons (.var 2) .anil)) (.var 2)) .skip))) [some (.tup (ws.map iv)), some (.ref h.length), none, none, none] (h ++ [.dct (KV [])]) = .ok (.nx [some (.tup (ws.map iv)), some (.ref h.length), o, none, none]) (h ++ [.dct (KV us)]) := by
  have big := line_big
  obtain ⟨env', h', e, us, o, rfl, rfl, H, S, hn⟩ := for_pre (G := GG) (cf := run GG FF (n + 1)) (tg := .n 2) (b := (.seq (.whiles (.and (.cmp .gt (.var 2) (.int 0)) (.cmp .isin (.call 36 (.acons (.var 2) .anil)) (.var 1))) (.set 2 (.bin .xor (.var 2) (.sub (.var 1) (.call 36 (.acons (.var 2) .anil)))))) (.ifs (.cmp .gt (.var 2) (.int 0)) (.sets (.var 1) (.call 36 (.acons (.var 2) .anil)) (.var 2)) .skip))) (g := iv) (xs := ws) (env := [some (.tup (ws.map iv)), some (.ref h.length), none, none, none]) (h := h ++ [.dct (KV [])])
    (fun pre env h' => ∃ (us : List Nat) (o : Option Vl), env = [some (.tup (ws.map iv)), some (.ref h.length), o, none, none] ∧ h' = h ++ [.dct (KV us)] ∧ Held us ∧ Same us pre ∧ us.length ≤ pre.length)
    ⟨[], none, rfl, rfl, ⟨List.nodup_nil, fun _ hx => (nomatch hx), fun _ hx => (nomatch hx)⟩, Same.refl _, Nat.le_refl _⟩
    (fun pre x post ex env h' i => by
      obtain ⟨us, o, rfl, rfl, H, S, hn⟩ := i
      have hx : x ∈ ws := by rw [ex]; exact List.mem_append_right _ List.mem_cons_self
      have hpre : pre.length ≤ 63 := by
        have := congrArg List.length ex
        rw [List.length_append] at this
        omega
      obtain ⟨w', h1, h2, h3, h4⟩ := lb_while (n := n) (h := h) (t := some (.tup (ws.map iv))) H 24 fuelW x (hw x hx) (Nat.le_refl _) (by decide)
      by_cases hz : w' = 0
      · refine ⟨_, _, _, rfl, ?_, us, some (iv 0), rfl, rfl, H, ?_, by rw [List.length_append]; omega⟩
        · rw [ev_seq, ev_whiles]
          show bndS (whileL _ _ fuelW [some (.tup (ws.map iv)), some (.ref h.length), some (iv x), none, none] _) _ = _
          rw [h4, bndS_nx, hz]
          simp only [evS, evE, evA, evF, evW, part1, part0, evC, List.getElem?_cons_zero, List.getElem?_cons_succ, putE, List.set_cons_zero, List.set_cons_succ, tgV, putEs, wipeE, walkC, walkF, bnd_ok', lift_some, bndS_nx, bndS_rt, iv_xor, iv_and, iv_add, iv_axor, iv_aadd, iv_eq, iv_ne, iv_lt, iv_gt, iv_le, tru_bl, int0, int1, int2, decide_eq_false (Nat.lt_irrefl 0)]
        · rw [hz, Nat.zero_xor] at h2
          exact (same_none h2).trans (same_app S [x])
      · have hg := h3 hz
        refine ⟨_, _, _, rfl, ?_, us ++ [w'], some (iv w'), rfl, rfl, H.add hz h1 hg, (same_left h2).trans (same_app S [x]), by rw [List.length_append, List.length_append]; exact Nat.add_le_add_right hn 1⟩
        rw [ev_seq, ev_whiles]
        show bndS (whileL _ _ fuelW [some (.tup (ws.map iv)), some (.ref h.length), some (iv x), none, none] _) _ = _
        rw [h4, bndS_nx]
        simp only [evS, evE, evA, evF, evW, part1, part0, evC, List.getElem?_cons_zero, List.getElem?_cons_succ, putE, List.set_cons_zero, List.set_cons_succ, tgV, putEs, wipeE, walkC, walkF, bnd_ok', lift_some, bndS_nx, bndS_rt, iv_xor, iv_and, iv_add, iv_axor, iv_aadd, iv_eq, iv_ne, iv_lt, iv_gt, iv_le, tru_bl, int0, int1, int2, decide_eq_true (Nat.pos_of_ne_zero hz), r36 w' h1 hz, set_KV rfl (dput_new hg) (show us.length < line by omega)])
  refine ⟨us, o, H, S, hn, ?_⟩
  rw [ev_fors]
  show bnd (R.ok (Wk.its (ws.map iv)) _) _ = _
  rw [bnd_ok']
  exact e
end
end Law
set_option Elab.async false
set_option linter.all false
set_option maxRecDepth 100000
set_option maxHeartbeats 1000000
namespace Law
open Mi Gf
section
variable {n : Nat} {h : Hh}
theorem has_all {us : List Nat} {p : Nat} (h : p ∈ us.map Nat.log2) : ∃ u, getH p us = some u := by
  obtain ⟨u, hu, e⟩ := List.mem_map.mp h
  exact getH_of hu e
theorem lb_inner {us : List Nat} {ws : List Nat} {t o3 : Option Vl} {p : Nat} {done : List Nat} (H : Held us) (S : Same us ws) (hz : us.length < 64) (hp : p ∈ us.map Nat.log2) (hd : ∀ q ∈ done, q < p ∧ Off us q) {o : Option Vl} :
    ∃ (vs : List Nat) (o4 : Option Vl), Held vs ∧ Same vs ws ∧ vs.map Nat.log2 = us.map Nat.log2 ∧ (∀ q ∈ done ++ [p], Off vs q) ∧
    evS GG (run GG FF (n + 1)) (.fors (.n 4) (.over (.fz (.srt false (.var 1)))) (.ifs (.and (.cmp .gt (.var 4) (.var 3)) (.call 37 (.acons (.sub (.var 1) (.var 4)) (.acons (.var 3) .anil)))) (.sets (.var 1) (.var 4) (.bin .xor (.sub (.var 1) (.var 4)) (.sub (.var 1) (.var 3)))) .skip)) [t, some (.ref h.length), o3, some (iv p), o] (h ++ [.dct (KV us)]) = .ok (.nx [t, some (.ref h.length), o3, some (iv p), o4]) (h ++ [.dct (KV vs)]) := by
  have big := line_big
  have hlen : ∀ {vs : List Nat}, vs.map Nat.log2 = us.map Nat.log2 → vs.length = us.length := fun e => by
    have := congrArg List.length e
    rwa [List.length_map, List.length_map] at this
  obtain ⟨env', h', e, vs, o4, rfl, rfl, H2, S2, hl2, hoff, hin⟩ := for_pre (G := GG) (cf := run GG FF (n + 1)) (tg := .n 4) (b := (.ifs (.and (.cmp .gt (.var 4) (.var 3)) (.call 37 (.acons (.sub (.var 1) (.var 4)) (.acons (.var 3) .anil)))) (.sets (.var 1) (.var 4) (.bin .xor (.sub (.var 1) (.var 4)) (.sub (.var 1) (.var 3)))) .skip)) (g := iv) (xs := sortN (us.map Nat.log2)) (env := [t, some (.ref h.length), o3, some (iv p), o]) (h := h ++ [.dct (KV us)])
    (fun pre env h' => ∃ (vs : List Nat) (o4 : Option Vl), env = [t, some (.ref h.length), o3, some (iv p), o4] ∧ h' = h ++ [.dct (KV vs)] ∧ Held vs ∧ Same vs ws ∧ vs.map Nat.log2 = us.map Nat.log2 ∧ (∀ q ∈ done, Off vs q) ∧ (∀ u ∈ vs, u.log2 ∈ pre → p < u.log2 → u.testBit p = false))
    ⟨us, o, rfl, rfl, H, S, rfl, fun q hq => (hd q hq).2, fun _ _ hx => (nomatch hx)⟩
    (fun pre x post ex env h' i => by
      obtain ⟨vs, o4, rfl, rfl, H1, S1, hl, hoff, hin⟩ := i
      have hx : x ∈ vs.map Nat.log2 := by
        rw [hl]
        exact (sortN_perm _).mem_iff.mp (by rw [ex]; exact List.mem_append_right _ List.mem_cons_self)
      obtain ⟨u, gu⟩ := has_all hx
      obtain ⟨hu, eu⟩ := getH_some gu
      obtain ⟨a, ga⟩ := has_all (us := vs) (p := p) (by rw [hl]; exact hp)
      obtain ⟨ha, ea⟩ := getH_some ga
      have hp24 : p ≤ 1000 := by
        have := (Nat.log2_lt (H1.pos a ha)).mpr (H1.lt a ha)
        omega
      by_cases h1 : p < x
      · cases h2 : u.testBit p with
        | true =>
          have hlog : (u ^^^ a).log2 = u.log2 := xor_log (H1.pos u hu) (by rw [ea, eu]; exact h1)
          have hne : u ^^^ a ≠ 0 := fun z => by
            have := xor_eq_zero z
            rw [this, ea] at eu
            omega
          have hlt : u ^^^ a < 2 ^ 24 := Nat.xor_lt_two_pow (H1.lt u hu) (H1.lt a ha)
          have hg : getH (u ^^^ a).log2 vs = some u := by rw [hlog, eu]; exact gu
          refine ⟨_, _, _, rfl, ?_, repH vs (u ^^^ a), some (iv x), rfl, rfl, H1.rep hne hlt, (repH_same H1 hu ha rfl hlog (by rw [ea, eu]; omega)).trans S1, (repH_log _ _).trans hl, ?_, ?_⟩
          · show evS GG (run GG FF (n + 1)) (.ifs (.and (.cmp .gt (.var 4) (.var 3)) (.call 37 (.acons (.sub (.var 1) (.var 4)) (.acons (.var 3) .anil)))) (.sets (.var 1) (.var 4) (.bin .xor (.sub (.var 1) (.var 4)) (.sub (.var 1) (.var 3)))) .skip) [t, some (.ref h.length), o3, some (iv p), some (iv x)] _ = _
            simp only [evS, evE, evA, evF, evW, part1, part0, evC, List.getElem?_cons_zero, List.getElem?_cons_succ, putE, List.set_cons_zero, List.set_cons_succ, tgV, putEs, wipeE, walkC, walkF, bnd_ok', lift_some, bndS_nx, bndS_rt, iv_xor, iv_and, iv_add, iv_axor, iv_aadd, iv_eq, iv_ne, iv_lt, iv_gt, iv_le, tru_bl, int0, int1, int2, decide_eq_true h1, sub_KV gu, r37 u p hp24, h2, sub_KV ga, set_KV (show x = (u ^^^ a).log2 by rw [hlog, eu]) (dput_old hg) (show vs.length < line by rw [hlen hl]; omega)]
          · intro q hq v hv hqv
            obtain ⟨q1, _⟩ := hd q hq
            rcases mem_repH hv with ⟨rfl, _⟩ | ⟨h5, _⟩
            · rw [Nat.testBit_xor, hoff q hq u hu (by rw [eu]; omega), hoff q hq a ha (by rw [ea]; exact q1)]
              rfl
            · exact hoff q hq v h5 hqv
          · intro v hv hpre hpv
            rcases mem_repH hv with ⟨rfl, _⟩ | ⟨h5, h6⟩
            · rw [Nat.testBit_xor, h2, ← ea, tb_head (H1.pos a ha)]
              rfl
            · rcases List.mem_append.mp hpre with z | z
              · exact hin v h5 z hpv
              · rw [List.mem_singleton] at z
                rw [hlog, eu] at h6
                exact absurd z h6
        | false =>
          refine ⟨_, _, _, rfl, ?_, vs, some (iv x), rfl, rfl, H1, S1, hl, hoff, ?_⟩
          · show evS GG (run GG FF (n + 1)) (.ifs (.and (.cmp .gt (.var 4) (.var 3)) (.call 37 (.acons (.sub (.var 1) (.var 4)) (.acons (.var 3) .anil)))) (.sets (.var 1) (.var 4) (.bin .xor (.sub (.var 1) (.var 4)) (.sub (.var 1) (.var 3)))) .skip) [t, some (.ref h.length), o3, some (iv p), some (iv x)] _ = _
            simp only [evS, evE, evA, evF, evW, part1, part0, evC, List.getElem?_cons_zero, List.getElem?_cons_succ, putE, List.set_cons_zero, List.set_cons_succ, tgV, putEs, wipeE, walkC, walkF, bnd_ok', lift_some, bndS_nx, bndS_rt, iv_xor, iv_and, iv_add, iv_axor, iv_aadd, iv_eq, iv_ne, iv_lt, iv_gt, iv_le, tru_bl, int0, int1, int2, decide_eq_true h1, sub_KV gu, r37 u p hp24, h2]
          · intro v hv hpre hpv
            rcases List.mem_append.mp hpre with z | z
            · exact hin v hv z hpv
            · rw [List.mem_singleton] at z
              rw [H1.inj hv hu (z.trans eu.symm)]
              exact h2
      · refine ⟨_, _, _, rfl, ?_, vs, some (iv x), rfl, rfl, H1, S1, hl, hoff, ?_⟩
        · show evS GG (run GG FF (n + 1)) (.ifs (.and (.cmp .gt (.var 4) (.var 3)) (.call 37 (.acons (.sub (.var 1) (.var 4)) (.acons (.var 3) .anil)))) (.sets (.var 1) (.var 4) (.bin .xor (.sub (.var 1) (.var 4)) (.sub (.var 1) (.var 3)))) .skip) [t, some (.ref h.length), o3, some (iv p), some (iv x)] _ = _
          simp only [evS, evE, evA, evF, evW, part1, part0, evC, List.getElem?_cons_zero, List.getElem?_cons_succ, putE, List.set_cons_zero, List.set_cons_succ, tgV, putEs, wipeE, walkC, walkF, bnd_ok', lift_some, bndS_nx, bndS_rt, iv_xor, iv_and, iv_add, iv_axor, iv_aadd, iv_eq, iv_ne, iv_lt, iv_gt, iv_le, tru_bl, int0, int1, int2, decide_eq_false h1]
        · intro v hv hpre hpv
          rcases List.mem_append.mp hpre with z | z
          · exact hin v hv z hpv
          · rw [List.mem_singleton] at z
            omega)
  refine ⟨vs, o4, H2, S2, hl2, ?_, ?_⟩
  · intro q hq
    rcases List.mem_append.mp hq with z | z
    · exact hoff q z
    · rw [List.mem_singleton.mp z]
      intro u hu hpu
      refine hin u hu ?_ hpu
      exact (sortN_perm _).mem_iff.mpr (by rw [← hl2]; exact List.mem_map.mpr ⟨u, hu, rfl⟩)
  · rw [ev_fors, over_KV rfl hz, bnd_ok']
    exact e
theorem lb_second {us ws : List Nat} {t o2 : Option Vl} (H : Held us) (S : Same us ws) (hz : us.length < 64) :
    ∃ (vs : List Nat) (o3 o4 : Option Vl), Held vs ∧ Same vs ws ∧ vs.map Nat.log2 = us.map Nat.log2 ∧ (∀ u ∈ vs, Off vs u.log2) ∧
    evS GG (run GG FF (n + 1)) (.fors (.n 3) (.over (.fz (.srt false (.var 1)))) (.fors (.n 4) (.over (.fz (.srt false (.var 1)))) (.ifs (.and (.cmp .gt (.var 4) (.var 3)) (.call 37 (.acons (.sub (.var 1) (.var 4)) (.acons (.var 3) .anil)))) (.sets (.var 1) (.var 4) (.bin .xor (.sub (.var 1) (.var 4)) (.sub (.var 1) (.var 3)))) .skip))) [t, some (.ref h.length), o2, none, none] (h ++ [.dct (KV us)]) = .ok (.nx [t, some (.ref h.length), o2, o3, o4]) (h ++ [.dct (KV vs)]) := by
  have hlen : ∀ {vs : List Nat}, vs.map Nat.log2 = us.map Nat.log2 → vs.length = us.length := fun e => by
    have := congrArg List.length e
    rwa [List.length_map, List.length_map] at this
  have srt : (sortN (us.map Nat.log2)).Pairwise (· < ·) := by
    have nd : (sortN (us.map Nat.log2)).Nodup := (sortN_perm _).nodup_iff.mpr H.nd
    refine ((sortN_sorted (us.map Nat.log2)).and nd).imp ?_
    intro a b ⟨h1, h2⟩
    omega
  obtain ⟨env', h', e, vs, o3, o4, rfl, rfl, H2, S2, hl2, hoff⟩ := for_pre (G := GG) (cf := run GG FF (n + 1)) (tg := .n 3) (b := (.fors (.n 4) (.over (.fz (.srt false (.var 1)))) (.ifs (.and (.cmp .gt (.var 4) (.var 3)) (.call 37 (.acons (.sub (.var 1) (.var 4)) (.acons (.var 3) .anil)))) (.sets (.var 1) (.var 4) (.bin .xor (.sub (.var 1) (.var 4)) (.sub (.var 1) (.var 3)))) .skip))) (g := iv) (xs := sortN (us.map Nat.log2)) (env := [t, some (.ref h.length), o2, none, none]) (h := h ++ [.dct (KV us)])
    (fun pre env h' => ∃ (vs : List Nat) (o3 o4 : Option Vl), env = [t, some (.ref h.length), o2, o3, o4] ∧ h' = h ++ [.dct (KV vs)] ∧ Held vs ∧ Same vs ws ∧ vs.map Nat.log2 = us.map Nat.log2 ∧ (∀ q ∈ pre, Off vs q))
    ⟨us, none, none, rfl, rfl, H, S, rfl, fun _ hx => (nomatch hx)⟩
    (fun pre x post ex env h' i => by
      obtain ⟨vs, o3, o4, rfl, rfl, H1, S1, hl, hoff⟩ := i
      have hx : x ∈ vs.map Nat.log2 := by
        rw [hl]
        exact (sortN_perm _).mem_iff.mp (by rw [ex]; exact List.mem_append_right _ List.mem_cons_self)
      have hlt : ∀ q ∈ pre, q < x := fun q hq => by
        rw [ex] at srt
        exact (List.pairwise_append.mp srt).2.2 q hq x List.mem_cons_self
      obtain ⟨vs', o4', H3, S3, hl3, hoff3, e3⟩ := lb_inner (n := n) (h := h) (t := t) (o3 := o2) (o := o4) H1 S1 (by rw [hlen hl]; exact hz) hx (fun q hq => ⟨hlt q hq, hoff q hq⟩)
      exact ⟨_, _, _, rfl, e3, vs', some (iv x), o4', rfl, rfl, H3, S3, hl3.trans hl, hoff3⟩)
  refine ⟨vs, o3, o4, H2, S2, hl2, ?_, ?_⟩
  · intro u hu
    refine hoff u.log2 ((sortN_perm _).mem_iff.mpr ?_)
    rw [← hl2]
    exact List.mem_map.mpr ⟨u, hu, rfl⟩
  · rw [ev_fors, over_KV rfl hz, bnd_ok']
    exact e
theorem r38 {ws : List Nat} (hw : ∀ w ∈ ws, w < 2 ^ 24) (hl : ws.length ≤ 63) (hh : wfH h.length h = true) : run GG FF (n + 2) 38 [.tup (ws.map iv)] h = .ok (.tup ((basis ws).map iv)) h := by
  have big := line_big
  obtain ⟨us, o2, H1, S1, hn1, e1⟩ := lb_first (n := n) (h := h) hw hl
  obtain ⟨vs, o3, o4, H2, S2, hl2, O2, e2⟩ := lb_second (n := n) (h := h) (t := some (.tup (ws.map iv))) (o2 := o2) H1 S1 (by omega)
  have hlen : vs.length = us.length := by
    have := congrArg List.length hl2
    rwa [List.length_map, List.length_map] at this
  obtain ⟨B, SB⟩ := byHead_bas H2 O2
  have e3 : evS GG (run GG FF (n + 1)) f38.body [some (.tup (ws.map iv)), none, none, none, none] h = .ok (.rt (.tup ((byHead vs).map iv))) (h ++ [.dct (KV vs)]) := by
    show evS GG (run GG FF (n + 1)) (.seq (.set 1 .dnew) (.seq (.fors (.n 2) (.over (.var 0)) (.seq (.whiles (.and (.cmp .gt (.var 2) (.int 0)) (.cmp .isin (.call 36 (.acons (.var 2) .anil)) (.var 1))) (.set 2 (.bin .xor (.var 2) (.sub (.var 1) (.call 36 (.acons (.var 2) .anil)))))) (.ifs (.cmp .gt (.var 2) (.int 0)) (.sets (.var 1) (.call 36 (.acons (.var 2) .anil)) (.var 2)) .skip))) (.seq (.fors (.n 3) (.over (.fz (.srt false (.var 1)))) (.fors (.n 4) (.over (.fz (.srt false (.var 1)))) (.ifs (.and (.cmp .gt (.var 4) (.var 3)) (.call 37 (.acons (.sub (.var 1) (.var 4)) (.acons (.var 3) .anil)))) (.sets (.var 1) (.var 4) (.bin .xor (.sub (.var 1) (.var 4)) (.sub (.var 1) (.var 3)))) .skip))) (.ret (.bif .tuple (.acons (.rev (.fz (.comp [3] (.n 3) (.over (.fz (.srt false (.var 1)))) .noe (.sub (.var 1) (.var 3))))) .anil)))))) _ _ = _
    rw [ev_seq]
    show bndS (R.ok (Oc.nx [some (.tup (ws.map iv)), some (.ref h.length), none, none, none]) (h ++ [.dct (KV [])])) _ = _
    rw [bndS_nx, ev_seq, e1, bndS_nx, ev_seq, e2, bndS_nx]
    have q := over_KV (h := h) (us := vs) (cf := run GG FF (n + 1)) (env := [some (.tup (ws.map iv)), some (.ref h.length), o2, o3, o4]) rfl (by omega)
    have q2 : evF GG (run GG FF (n + 1)) (.comp [3] (.n 3) (.over (.fz (.srt false (.var 1)))) .noe (.sub (.var 1) (.var 3))) [some (.tup (ws.map iv)), some (.ref h.length), o2, o3, o4] (h ++ [.dct (KV vs)]) = .ok ((byHead vs).reverse.map iv) (h ++ [.dct (KV vs)]) := by
      show bnd (evW GG (run GG FF (n + 1)) (.over (.fz (.srt false (.var 1)))) [some (.tup (ws.map iv)), some (.ref h.length), o2, o3, o4] (h ++ [.dct (KV vs)])) _ = _
      rw [q, bnd_ok']
      show compL _ _ _ _ = _
      rw [compL_map (k := fun p => iv ((getH p vs).getD 0)) ?z1 ?z2]
      case z1 =>
        have : (sortN (vs.map Nat.log2)).length = vs.length := by rw [(sortN_perm _).length_eq, List.length_map]
        simp only [List.length_nil]
        omega
      case z2 =>
        intro p hp
        obtain ⟨u, gu⟩ := has_all ((sortN_perm _).mem_iff.mp hp)
        simp only [evS, evE, evA, evF, evW, part1, part0, evC, List.getElem?_cons_zero, List.getElem?_cons_succ, putE, List.set_cons_zero, List.set_cons_succ, tgV, putEs, wipeE, walkC, walkF, bnd_ok', lift_some, bndS_nx, bndS_rt, iv_xor, iv_and, iv_add, iv_axor, iv_aadd, iv_eq, iv_ne, iv_lt, iv_gt, iv_le, tru_bl, int0, int1, int2, sub_KV gu, gu, Option.getD_some]
      rw [List.nil_append]
      unfold byHead
      rw [List.reverse_reverse, List.map_map]
      rfl
    show bnd (evE GG (run GG FF (n + 1)) (.bif .tuple (.acons (.rev (.fz (.comp [3] (.n 3) (.over (.fz (.srt false (.var 1)))) .noe (.sub (.var 1) (.var 3))))) .anil)) _ _) _ = _
    simp only [evE, evA, q2, bnd_ok', revW, lstOf, lift_some, bifV, arg1, tupleV, seqOf]
    rw [← List.map_reverse, List.reverse_reverse]
  rw [run_eq (d := f38) rfl rfl]
  show endF f38.frz h.length (evS GG (run GG FF (n + 1)) f38.body [some (.tup (ws.map iv)), none, none, none, none] h) = _
  rw [e3, ← basis_eq B (SB.trans S2)]
  exact end_tup _ _ hh
end
end Law
set_option Elab.async false
set_option linter.all false
set_option maxRecDepth 100000
set_option maxHeartbeats 1000000
namespace Law
open Mi Gf
theorem eqV_self : ∀ (n : Nat) (v : Vl), pl v n = true → eqV v v = true
  | n, .non, _ => rfl
  | n, .bl b, _ => by simp [eqV]
  | n, .int i, _ => by simp [eqV]
  | n, .str s, _ => by simp [eqV]
  | 0, .lst xs, h => by simp [pl] at h
  | 0, .tup xs, h => by simp [pl] at h
  | n + 1, .lst xs, h => by
    have q : ∀ xs : List Vl, plL xs n = true → eqL xs xs = true := by
      intro xs
      induction xs with
      | nil => intro _; simp [eqL]
      | cons x r ih =>
        intro hx
        unfold plL at hx
        cases hp : pl x n with
        | false => rw [hp] at hx; cases hx
        | true =>
          rw [hp] at hx
          unfold eqL
          rw [eqV_self n x hp]
          exact ih hx
    unfold pl at h
    unfold eqV
    exact q xs h
  | n + 1, .tup xs, h => by
    have q : ∀ xs : List Vl, plL xs n = true → eqL xs xs = true := by
      intro xs
      induction xs with
      | nil => intro _; simp [eqL]
      | cons x r ih =>
        intro hx
        unfold plL at hx
        cases hp : pl x n with
        | false => rw [hp] at hx; cases hx
        | true =>
          rw [hp] at hx
          unfold eqL
          rw [eqV_self n x hp]
          exact ih hx
    unfold pl at h
    unfold eqV
    exact q xs h
  | _, .scr _, h => by simp [pl] at h
  | _, .dct _, h => by simp [pl] at h
  | _, .ins _ _, h => by simp [pl] at h
  | _, .ref _, h => by simp [pl] at h
  | _, .fn _, h => by simp [pl] at h
  | _, .clo _, h => by simp [pl] at h
theorem deref_pl {h : Hh} {v : Vl} {n : Nat} (hv : pl v n = true) : deref h v = v := by
  cases v with
  | ref k => simp [pl] at hv
  | _ => rfl
section
variable {n : Nat} {h : Hh}
theorem eq_self {v : Vl} (hv : pl v 20 = true) : cmpV .eq h v v = some true := by
  show pyEq h v v = _
  unfold pyEq
  rw [deref_pl hv]
  dsimp only
  rw [hv]
  dsimp only
  rw [eqV_self 20 v hv]
theorem ne_self {v : Vl} (hv : pl v 20 = true) : cmpV .ne h v v = some false := by
  have e := eq_self (h := h) hv
  show (match cmpV .eq h v v with | some b => some (!b) | none => none) = _
  rw [e]
  rfl
theorem plL_all {n : Nat} : ∀ {xs : List Vl}, (∀ x ∈ xs, pl x n = true) → plL xs n = true
  | [], _ => by simp [plL]
  | x :: r, k => by
    unfold plL
    rw [k x List.mem_cons_self]
    exact plL_all fun y hy => k y (List.mem_cons_of_mem _ hy)
theorem pl_lst {n : Nat} {xs : List Vl} (k : ∀ x ∈ xs, pl x n = true) : pl (.lst xs) (n + 1) = true := by
  unfold pl
  exact plL_all k
theorem pl_tup {n : Nat} {xs : List Vl} (k : ∀ x ∈ xs, pl x n = true) : pl (.tup xs) (n + 1) = true := by
  unfold pl
  exact plL_all k
theorem pl_iv (w n : Nat) : pl (iv w) n = true := by
  unfold iv
  cases n <;> rfl
theorem pl_ivs {n : Nat} {ws : List Nat} : ∀ x ∈ ws.map iv, pl x n = true := fun x hx => by
  obtain ⟨w, _, rfl⟩ := List.mem_map.mp hx
  exact pl_iv w n
theorem compL_all {turn : Vl → Hh → R (Option Vl)} {k : Vl → Vl} {xs acc : List Vl} (hl : acc.length + xs.length ≤ line) (q : ∀ x ∈ xs, turn x h = .ok (some (k x)) h) : compL turn xs acc h = .ok (acc ++ xs.map k) h := by
  have := compL_map (g := id) (xs := xs) hl q
  rwa [List.map_id] at this
theorem sub_any (x y : Nat) : binV .sub h (iv x) (iv y) = some (.int ((x : Int) - y)) := rfl
theorem sub_int (i : Int) (y : Nat) : binV .sub h (.int i) (iv y) = some (.int (i - y)) := rfl
def nearL (a b l k : Nat) : List Vl := [iv a, iv b, iv 0, .int ((2 ^ l : Nat) - (1 : Nat)), iv (2 ^ l), .int (-1), .bl true, .non, .str [49], .tup [iv a], .int (((0 : Nat) : Int) - a - (1 : Nat)), iv k, iv (a + 2 ^ l)]
theorem nearL_plain (a b l k : Nat) : ∀ v ∈ nearL a b l k, plainV v = true := by
  unfold nearL
  simp only [List.forall_mem_cons]
  exact ⟨rfl, rfl, rfl, rfl, rfl, rfl, rfl, rfl, rfl, rfl, rfl, rfl, rfl, fun _ h => (nomatch h)⟩
theorem near_ev {cf : CF} {P x2 x3 x4 x7 x8 : Option Vl} {a b l m k : Nat} (hl : l ≤ 1000) (i10 : Vl.int 10 = iv m) (i64 : Vl.int 64 = iv k) (hmk : (m.log2 + 1) * k < 100000) :
    evE GG cf (.fz (.disp (.acons (.var 5) (.acons (.var 6) (.acons (.int 0) (.acons (.bin .sub (.bin .shl (.int 1) (.var 1)) (.int 1)) (.acons (.bin .shl (.int 1) (.var 1)) (.acons (.neg (.int 1)) (.acons (.bl true) (.acons .non (.acons (.str [49]) (.acons (.tup (.acons (.var 5) .anil)) (.acons (.bin .sub (.bin .sub (.int 0) (.var 5)) (.int 1)) (.acons (.bin .pow (.int 10) (.int 64)) (.acons (.bin .add (.var 5) (.bin .shl (.int 1) (.var 1))) .anil))))))))))))))) [P, some (iv l), x2, x3, x4, some (iv a), some (iv b), x7, x8] h = .ok (.lst (nearL a b l (m ^ k))) h := by
  have h13 : decide ((nearL a b l (m ^ k)).length ≤ line) = true := decide_eq_true (by show 13 ≤ line; decide)
  have h1 : decide ([iv a].length ≤ line) = true := decide_eq_true (by show 1 ≤ line; decide)
  have ng : ∀ env h, evE GG cf (.neg (.int 1)) env h = .ok (.int (-1)) h := fun _ _ => rfl
  unfold nearL at *
  simp only [↓ng, evS, evE, evA, evF, evW, part1, part0, evC, List.getElem?_cons_zero, List.getElem?_cons_succ, putE, List.set_cons_zero, List.set_cons_succ, tgV, putEs, wipeE, walkC, walkF, bnd_ok', lift_some, bndS_nx, bndS_rt, iv_xor, iv_and, iv_add, iv_axor, iv_aadd, iv_eq, iv_ne, iv_lt, iv_gt, iv_le, tru_bl, int0, int1, int2, iv_shl hl, sub_any, sub_int, i10, i64, iv_pow hmk, h1, h13]
theorem r43 {p l : Nat} (hp : Pail h p) (h1 : 1 ≤ l) (h2 : l ≤ 24) : ∃ h', run GG FF (n + 5) 43 [.ref p, iv l] h = .ok (.bl true) h' ∧ Drew h h' p := by
  have big := line_big
  have hl : l ≤ 1000 := by omega
  have hlog : (2 ^ l).log2 < 9000 := by rw [Nat.log2_two_pow]; omega
  obtain ⟨a, g1, ha, e1, d1⟩ := r32 (n := n + 3) hp (Nat.two_pow_pos l) hlog
  obtain ⟨b, g2, hb, e2, d2⟩ := r32 (n := n + 3) d1.1 (Nat.two_pow_pos l) hlog
  have d := d1.trans d2
  refine ⟨g2, ?_, d⟩
  have s1 : evS GG (run GG FF (n + 4)) (.par [5, 6] (.acons (.call 32 (.acons (.var 0) (.acons (.bin .shl (.int 1) (.var 1)) .anil))) (.acons (.call 32 (.acons (.var 0) (.acons (.bin .shl (.int 1) (.var 1)) .anil))) .anil))) [some (.ref p), some (iv l), none, none, none, none, none, none, none] h = .ok (.nx [some (.ref p), some (iv l), none, none, none, some (iv a), some (iv b), none, none]) g2 := by
    simp only [evS, evE, evA, evF, evW, part1, part0, evC, List.getElem?_cons_zero, List.getElem?_cons_succ, putE, List.set_cons_zero, List.set_cons_succ, tgV, putEs, wipeE, walkC, walkF, bnd_ok', lift_some, bndS_nx, bndS_rt, iv_xor, iv_and, iv_add, iv_axor, iv_aadd, iv_eq, iv_ne, iv_lt, iv_gt, iv_le, tru_bl, int0, int1, int2, iv_shl hl, e1, e2]
  have s2 : evS GG (run GG FF (n + 4)) (.set 2 (.bif .tuple (.acons (.fz (.comp [8] (.n 8) (.range (.acons (.var 1) .anil)) (.sm (.call 37 (.acons (.var 5) (.acons (.var 8) .anil)))) (.var 8))) .anil))) [some (.ref p), some (iv l), none, none, none, some (iv a), some (iv b), none, none] g2 = .ok (.nx [some (.ref p), some (iv l), some (.tup ((plcs a).map iv)), none, none, some (iv a), some (iv b), none, none]) g2 := by
    have e : rangeL ((l : Int)).toNat 0 1 = (List.range l).map iv := by rw [Int.toNat_natCast, range_iv0]
    have hd : decide (((l : Nat) : Int).natAbs < 1000000000) = true := decide_eq_true (by omega)
    simp only [evS, evE, evA, evF, evW, part1, part0, evC, List.getElem?_cons_zero, List.getElem?_cons_succ, putE, List.set_cons_zero, List.set_cons_succ, tgV, putEs, wipeE, walkC, walkF, bnd_ok', lift_some, bndS_nx, bndS_rt, iv_xor, iv_and, iv_add, iv_axor, iv_aadd, iv_eq, iv_ne, iv_lt, iv_gt, iv_le, tru_bl, int0, int1, int2]
    rw [show iv l = Vl.int (l : Nat) from rfl]
    simp only [hd, e, evS, evE, evA, evF, evW, part1, part0, evC, List.getElem?_cons_zero, List.getElem?_cons_succ, putE, List.set_cons_zero, List.set_cons_succ, tgV, putEs, wipeE, walkC, walkF, bnd_ok', lift_some, bndS_nx, bndS_rt, iv_xor, iv_and, iv_add, iv_axor, iv_aadd, iv_eq, iv_ne, iv_lt, iv_gt, iv_le, tru_bl, int0, int1, int2]
    rw [compL_filter (p := fun p => a.testBit p) (k := iv) (by simp; omega) ?_]
    · rw [plcs_range ha]
      simp only [evS, evE, evA, evF, evW, part1, part0, evC, List.getElem?_cons_zero, List.getElem?_cons_succ, putE, List.set_cons_zero, List.set_cons_succ, tgV, putEs, wipeE, walkC, walkF, bnd_ok', lift_some, bndS_nx, bndS_rt, iv_xor, iv_and, iv_add, iv_axor, iv_aadd, iv_eq, iv_ne, iv_lt, iv_gt, iv_le, tru_bl, int0, int1, int2, List.nil_append, bifV, arg1, tupleV, seqOf]
    · intro q hq
      have hq2 : q ≤ 1000 := by
        have := List.mem_range.mp hq
        omega
      simp only [evS, evE, evA, evF, evW, part1, part0, evC, List.getElem?_cons_zero, List.getElem?_cons_succ, putE, List.set_cons_zero, List.set_cons_succ, tgV, putEs, wipeE, walkC, walkF, bnd_ok', lift_some, bndS_nx, bndS_rt, iv_xor, iv_and, iv_add, iv_axor, iv_aadd, iv_eq, iv_ne, iv_lt, iv_gt, iv_le, tru_bl, int0, int1, int2, r37 a q hq2]
      cases a.testBit q with
      | true => simp only [evS, evE, evA, evF, evW, part1, part0, evC, List.getElem?_cons_zero, List.getElem?_cons_succ, putE, List.set_cons_zero, List.set_cons_succ, tgV, putEs, wipeE, walkC, walkF, bnd_ok', lift_some, bndS_nx, bndS_rt, iv_xor, iv_and, iv_add, iv_axor, iv_aadd, iv_eq, iv_ne, iv_lt, iv_gt, iv_le, tru_bl, int0, int1, int2, if_true]
      | false => simp only [evS, evE, evA, evF, evW, part1, part0, evC, List.getElem?_cons_zero, List.getElem?_cons_succ, putE, List.set_cons_zero, List.set_cons_succ, tgV, putEs, wipeE, walkC, walkF, bnd_ok', lift_some, bndS_nx, bndS_rt, iv_xor, iv_and, iv_add, iv_axor, iv_aadd, iv_eq, iv_ne, iv_lt, iv_gt, iv_le, tru_bl, int0, int1, int2, Bool.false_eq_true, if_false]
  have s3 := wr1 (n := n) (h := g2) (b := b) (x3 := none) (x4 := none) (x7 := none) (x8 := none) (P := some (.ref p)) h2 ha
  have s4 := wr2 (n := n) (h := g2) (x2 := some (.tup ((plcs a).map iv))) (x3 := none) (x4 := none) (x7 := none) (x8 := none) (P := some (.ref p)) h2 ha hb
  have s5 := wr3 (n := n) (h := g2) (x2 := some (.tup ((plcs a).map iv))) (x3 := none) (x4 := none) (x7 := none) (x8 := none) (P := some (.ref p)) h2 ha hb
  have s6 := near_ev (h := g2) (cf := run GG FF (n + 4)) (P := some (.ref p)) (x2 := some (.tup ((plcs a).map iv))) (x3 := none) (x4 := none) (x7 := none) (x8 := none) (a := a) (b := b) (m := 10) (k := 64) hl rfl rfl (by decide)
  have hpl := nearL_plain a b l (10 ^ 64)
  have hlen : (nearL a b l (10 ^ 64)).length = 13 := rfl
  generalize nearL a b l (10 ^ 64) = nl at s6 hpl hlen
  have s7 : evE GG (run GG FF (n + 4)) (.fz (.comp [7] (.n 7) (.over (.var 3)) .noe (.and (.bif .isint (.acons (.var 7) .anil)) (.and (.not (.bif .isbool (.acons (.var 7) .anil))) (.chain .le .lt (.int 0) (.var 7) (.bin .shl (.int 1) (.var 1))))))) [some (.ref p), some (iv l), some (.tup ((plcs a).map iv)), some (.lst nl), none, some (iv a), some (iv b), none, none] g2 = .ok (.lst (nl.map fun v => .bl (wd l v))) g2 := by
    have q : evF GG (run GG FF (n + 4)) (.comp [7] (.n 7) (.over (.var 3)) .noe (.and (.bif .isint (.acons (.var 7) .anil)) (.and (.not (.bif .isbool (.acons (.var 7) .anil))) (.chain .le .lt (.int 0) (.var 7) (.bin .shl (.int 1) (.var 1)))))) [some (.ref p), some (iv l), some (.tup ((plcs a).map iv)), some (.lst nl), none, some (iv a), some (iv b), none, none] g2 = compL (fun x h => match tgV (.n 7) x (wipeE [some (.ref p), some (iv l), some (.tup ((plcs a).map iv)), some (.lst nl), none, some (iv a), some (iv b), none, none] [7]) with
      | some env' => bnd (evC GG (run GG FF (n + 4)) .noe env' h) fun b h => match b with
        | true => bnd (evE GG (run GG FF (n + 4)) (.and (.bif .isint (.acons (.var 7) .anil)) (.and (.not (.bif .isbool (.acons (.var 7) .anil))) (.chain .le .lt (.int 0) (.var 7) (.bin .shl (.int 1) (.var 1))))) env' h) fun y h => .ok (some y) h
        | false => .ok none h
      | none => .bad) nl [] g2 := rfl
    show bnd (evF GG (run GG FF (n + 4)) (.comp [7] (.n 7) (.over (.var 3)) .noe (.and (.bif .isint (.acons (.var 7) .anil)) (.and (.not (.bif .isbool (.acons (.var 7) .anil))) (.chain .le .lt (.int 0) (.var 7) (.bin .shl (.int 1) (.var 1)))))) _ g2) _ = _
    rw [q, compL_all (k := fun v => .bl (wd l v)) (by simp [hlen]; omega) ?_]
    · rfl
    · intro v hv
      show bnd (evE GG (run GG FF (n + 4)) (.and (.bif .isint (.acons (.var 7) .anil)) (.and (.not (.bif .isbool (.acons (.var 7) .anil))) (.chain .le .lt (.int 0) (.var 7) (.bin .shl (.int 1) (.var 1))))) [some (.ref p), some (iv l), some (.tup ((plcs a).map iv)), some (.lst nl), none, some (iv a), some (iv b), some v, none] g2) (fun y h => R.ok (some y) h) = _
      rw [due_v (l := l) (v := v) hl (hpl v hv) rfl rfl]
      rfl
  have s8 : evE GG (run GG FF (n + 4)) (.fz (.comp [7] (.n 7) (.over (.var 3)) .noe (.call 22 (.acons (.var 1) (.acons (.var 7) .anil))))) [some (.ref p), some (iv l), some (.tup ((plcs a).map iv)), some (.lst nl), some (.lst (nl.map fun v => .bl (wd l v))), some (iv a), some (iv b), none, none] g2 = .ok (.lst (nl.map fun v => .bl (wd l v))) g2 := by
    have q : evF GG (run GG FF (n + 4)) (.comp [7] (.n 7) (.over (.var 3)) .noe (.call 22 (.acons (.var 1) (.acons (.var 7) .anil)))) [some (.ref p), some (iv l), some (.tup ((plcs a).map iv)), some (.lst nl), some (.lst (nl.map fun v => .bl (wd l v))), some (iv a), some (iv b), none, none] g2 = compL (fun x h => match tgV (.n 7) x (wipeE [some (.ref p), some (iv l), some (.tup ((plcs a).map iv)), some (.lst nl), some (.lst (nl.map fun v => .bl (wd l v))), some (iv a), some (iv b), none, none] [7]) with
      | some env' => bnd (evC GG (run GG FF (n + 4)) .noe env' h) fun b h => match b with
        | true => bnd (evE GG (run GG FF (n + 4)) (.call 22 (.acons (.var 1) (.acons (.var 7) .anil))) env' h) fun y h => .ok (some y) h
        | false => .ok none h
      | none => .bad) nl [] g2 := rfl
    show bnd (evF GG (run GG FF (n + 4)) (.comp [7] (.n 7) (.over (.var 3)) .noe (.call 22 (.acons (.var 1) (.acons (.var 7) .anil)))) _ g2) _ = _
    rw [q, compL_all (k := fun v => .bl (wd l v)) (by simp [hlen]; omega) ?_]
    · rfl
    · intro v hv
      simp only [evS, evE, evA, evF, evW, part1, part0, evC, List.getElem?_cons_zero, List.getElem?_cons_succ, putE, List.set_cons_zero, List.set_cons_succ, tgV, putEs, wipeE, walkC, walkF, bnd_ok', lift_some, bndS_nx, bndS_rt, iv_xor, iv_and, iv_add, iv_axor, iv_aadd, iv_eq, iv_ne, iv_lt, iv_gt, iv_le, tru_bl, int0, int1, int2, r22 h1 h2 (hpl v hv)]
  rw [run_eq (d := f43) rfl rfl]
  have e : evS GG (run GG FF (n + 4)) (.seq (.par [5, 6] (.acons (.call 32 (.acons (.var 0) (.acons (.bin .shl (.int 1) (.var 1)) .anil))) (.acons (.call 32 (.acons (.var 0) (.acons (.bin .shl (.int 1) (.var 1)) .anil))) .anil))) (.seq (.set 2 (.bif .tuple (.acons (.fz (.comp [8] (.n 8) (.range (.acons (.var 1) .anil)) (.sm (.call 37 (.acons (.var 5) (.acons (.var 8) .anil)))) (.var 8))) .anil))) (.seq (.ifs (.or (.cmp .ne (.call 23 (.acons (.var 5) .anil)) (.call 34 (.acons (.var 5) .anil))) (.or (.cmp .ne (.call 25 (.acons (.var 5) .anil)) (.var 2)) (.cmp .ne (.call 26 (.acons (.var 2) .anil)) (.var 5)))) (.ret (.bl false)) .skip) (.seq (.ifs (.or (.cmp .ne (.call 24 (.acons (.var 5) (.acons (.var 6) .anil))) (.call 35 (.acons (.var 5) (.acons (.var 6) .anil)))) (.cmp .ne (.call 24 (.acons (.var 5) (.acons (.var 5) .anil))) (.bin .mod (.call 23 (.acons (.var 5) .anil)) (.int 2)))) (.ret (.bl false)) .skip) (.seq (.ifs (.cmp .ne (.call 23 (.acons (.bin .xor (.var 5) (.var 6)) .anil)) (.bin .sub (.bin .add (.call 23 (.acons (.var 5) .anil)) (.call 23 (.acons (.var 6) .anil))) (.bin .mul (.int 2) (.call 34 (.acons (.bin .and (.var 5) (.var 6)) .anil))))) (.ret (.bl false)) .skip) (.seq (.set 3 (.fz (.disp (.acons (.var 5) (.acons (.var 6) (.acons (.int 0) (.acons (.bin .sub (.bin .shl (.int 1) (.var 1)) (.int 1)) (.acons (.bin .shl (.int 1) (.var 1)) (.acons (.neg (.int 1)) (.acons (.bl true) (.acons .non (.acons (.str [49]) (.acons (.tup (.acons (.var 5) .anil)) (.acons (.bin .sub (.bin .sub (.int 0) (.var 5)) (.int 1)) (.acons (.bin .pow (.int 10) (.int 64)) (.acons (.bin .add (.var 5) (.bin .shl (.int 1) (.var 1))) .anil)))))))))))))))) (.seq (.set 4 (.fz (.comp [7] (.n 7) (.over (.var 3)) .noe (.and (.bif .isint (.acons (.var 7) .anil)) (.and (.not (.bif .isbool (.acons (.var 7) .anil))) (.chain .le .lt (.int 0) (.var 7) (.bin .shl (.int 1) (.var 1)))))))) (.ret (.cmp .eq (.fz (.comp [7] (.n 7) (.over (.var 3)) .noe (.call 22 (.acons (.var 1) (.acons (.var 7) .anil))))) (.var 4)))))))))) [some (.ref p), some (iv l), none, none, none, none, none, none, none] h = .ok (.rt (.bl true)) g2 := by
    rw [ev_seq, s1, bndS_nx, ev_seq, s2, bndS_nx, ev_seq, s3, bndS_nx, ev_seq, s4, bndS_nx, ev_seq, s5, bndS_nx, ev_seq]
    show bndS (bnd (evE GG (run GG FF (n + 4)) (.fz (.disp (.acons (.var 5) (.acons (.var 6) (.acons (.int 0) (.acons (.bin .sub (.bin .shl (.int 1) (.var 1)) (.int 1)) (.acons (.bin .shl (.int 1) (.var 1)) (.acons (.neg (.int 1)) (.acons (.bl true) (.acons .non (.acons (.str [49]) (.acons (.tup (.acons (.var 5) .anil)) (.acons (.bin .sub (.bin .sub (.int 0) (.var 5)) (.int 1)) (.acons (.bin .pow (.int 10) (.int 64)) (.acons (.bin .add (.var 5) (.bin .shl (.int 1) (.var 1))) .anil))))))))))))))) _ g2) _) _ = _
    rw [s6, bnd_ok', bndS_nx, ev_seq]
    show bndS (bnd (evE GG (run GG FF (n + 4)) (.fz (.comp [7] (.n 7) (.over (.var 3)) .noe (.and (.bif .isint (.acons (.var 7) .anil)) (.and (.not (.bif .isbool (.acons (.var 7) .anil))) (.chain .le .lt (.int 0) (.var 7) (.bin .shl (.int 1) (.var 1))))))) [some (.ref p), some (iv l), some (.tup ((plcs a).map iv)), some (.lst nl), none, some (iv a), some (iv b), none, none] g2) _) _ = _
    rw [s7, bnd_ok', bndS_nx]
    show bnd (bnd (evE GG (run GG FF (n + 4)) (.fz (.comp [7] (.n 7) (.over (.var 3)) .noe (.call 22 (.acons (.var 1) (.acons (.var 7) .anil))))) [some (.ref p), some (iv l), some (.tup ((plcs a).map iv)), some (.lst nl), some (.lst (nl.map fun v => .bl (wd l v))), some (iv a), some (iv b), none, none] g2) _) _ = _
    rw [s8, bnd_ok']
    simp only [evS, evE, evA, evF, evW, part1, part0, evC, List.getElem?_cons_zero, List.getElem?_cons_succ, putE, List.set_cons_zero, List.set_cons_succ, tgV, putEs, wipeE, walkC, walkF, bnd_ok', lift_some, bndS_nx, bndS_rt, iv_xor, iv_and, iv_add, iv_axor, iv_aadd, iv_eq, iv_ne, iv_lt, iv_gt, iv_le, tru_bl, int0, int1, int2, eq_self (pl_lst (n := 19) (xs := nl.map fun v => .bl (wd l v)) fun x hx => by obtain ⟨v, _, rfl⟩ := List.mem_map.mp hx; rfl)]
  show endF f43.frz h.length (evS GG (run GG FF (n + 4)) (.seq (.par [5, 6] (.acons (.call 32 (.acons (.var 0) (.acons (.bin .shl (.int 1) (.var 1)) .anil))) (.acons (.call 32 (.acons (.var 0) (.acons (.bin .shl (.int 1) (.var 1)) .anil))) .anil))) (.seq (.set 2 (.bif .tuple (.acons (.fz (.comp [8] (.n 8) (.range (.acons (.var 1) .anil)) (.sm (.call 37 (.acons (.var 5) (.acons (.var 8) .anil)))) (.var 8))) .anil))) (.seq (.ifs (.or (.cmp .ne (.call 23 (.acons (.var 5) .anil)) (.call 34 (.acons (.var 5) .anil))) (.or (.cmp .ne (.call 25 (.acons (.var 5) .anil)) (.var 2)) (.cmp .ne (.call 26 (.acons (.var 2) .anil)) (.var 5)))) (.ret (.bl false)) .skip) (.seq (.ifs (.or (.cmp .ne (.call 24 (.acons (.var 5) (.acons (.var 6) .anil))) (.call 35 (.acons (.var 5) (.acons (.var 6) .anil)))) (.cmp .ne (.call 24 (.acons (.var 5) (.acons (.var 5) .anil))) (.bin .mod (.call 23 (.acons (.var 5) .anil)) (.int 2)))) (.ret (.bl false)) .skip) (.seq (.ifs (.cmp .ne (.call 23 (.acons (.bin .xor (.var 5) (.var 6)) .anil)) (.bin .sub (.bin .add (.call 23 (.acons (.var 5) .anil)) (.call 23 (.acons (.var 6) .anil))) (.bin .mul (.int 2) (.call 34 (.acons (.bin .and (.var 5) (.var 6)) .anil))))) (.ret (.bl false)) .skip) (.seq (.set 3 (.fz (.disp (.acons (.var 5) (.acons (.var 6) (.acons (.int 0) (.acons (.bin .sub (.bin .shl (.int 1) (.var 1)) (.int 1)) (.acons (.bin .shl (.int 1) (.var 1)) (.acons (.neg (.int 1)) (.acons (.bl true) (.acons .non (.acons (.str [49]) (.acons (.tup (.acons (.var 5) .anil)) (.acons (.bin .sub (.bin .sub (.int 0) (.var 5)) (.int 1)) (.acons (.bin .pow (.int 10) (.int 64)) (.acons (.bin .add (.var 5) (.bin .shl (.int 1) (.var 1))) .anil)))))))))))))))) (.seq (.set 4 (.fz (.comp [7] (.n 7) (.over (.var 3)) .noe (.and (.bif .isint (.acons (.var 7) .anil)) (.and (.not (.bif .isbool (.acons (.var 7) .anil))) (.chain .le .lt (.int 0) (.var 7) (.bin .shl (.int 1) (.var 1)))))))) (.ret (.cmp .eq (.fz (.comp [7] (.n 7) (.over (.var 3)) .noe (.call 22 (.acons (.var 1) (.acons (.var 7) .anil))))) (.var 4)))))))))) [some (.ref p), some (iv l), none, none, none, none, none, none, none] h) = _
  rw [e]
  exact end_ret (by rw [d.len]; exact Nat.le_refl _)
end
end Law
set_option Elab.async false
set_option linter.all false
set_option maxRecDepth 100000
set_option maxHeartbeats 1000000
namespace Law
open Mi Gf
theorem mem_spanL : ∀ {bs acc : List Nat} {x : Nat}, x ∈ spanL bs acc ↔ ∃ a ∈ acc, Sp bs (x ^^^ a)
  | [], acc, x => by
    constructor
    · intro h
      exact ⟨x, h, Nat.xor_self x⟩
    · rintro ⟨a, ha, e⟩
      have : x = a := xor_eq_zero e
      rw [this]
      exact ha
  | b :: bs, acc, x => by
    rw [spanL_cons, mem_spanL]
    constructor
    · rintro ⟨a, ha, e⟩
      rcases List.mem_append.mp ha with z | z
      · exact ⟨a, z, .inl e⟩
      · obtain ⟨c, hc, rfl⟩ := List.mem_map.mp z
        refine ⟨c, hc, .inr ?_⟩
        rwa [Nat.xor_assoc]
    · rintro ⟨a, ha, e | e⟩
      · exact ⟨a, List.mem_append_left _ ha, e⟩
      · refine ⟨a ^^^ b, List.mem_append_right _ (List.mem_map.mpr ⟨a, ha, rfl⟩), ?_⟩
        rwa [← Nat.xor_assoc]
theorem mem_span0 {bs : List Nat} {x : Nat} : x ∈ spanF bs [0] ↔ Sp bs x := by
  show x ∈ spanL bs [0] ↔ _
  rw [mem_spanL]
  constructor
  · rintro ⟨a, ha, e⟩
    rw [List.mem_singleton.mp ha, Nat.xor_zero] at e
    exact e
  · intro h
    exact ⟨0, List.mem_singleton.mpr rfl, by rw [Nat.xor_zero]; exact h⟩
theorem rem_least {bs : List Nat} (R : Red bs) (w s : Nat) (hs : Sp bs s) : rem bs w ≤ w ^^^ s := by
  have h1 : Sp bs ((w ^^^ s) ^^^ rem bs w) := by
    have := sp_xor (rem_sp bs w) hs
    rwa [Nat.xor_assoc, Nat.xor_comm] at this
  by_cases z : (w ^^^ s) ^^^ rem bs w = 0
  · rw [xor_eq_zero z]
    exact Nat.le_refl _
  · obtain ⟨b, hb, e⟩ := red_head R h1 z
    have h2 := rem_head R w b hb
    have h3 := tb_head z
    rw [e, Nat.testBit_xor, h2, Bool.xor_false] at h3
    refine Nat.le_of_lt (lt_of_tb b.log2 h2 h3 fun j hj => ?_)
    have := tb_above (x := (w ^^^ s) ^^^ rem bs w) (i := j) (by rw [e]; exact hj)
    rw [Nat.testBit_xor] at this
    cases ha : (w ^^^ s).testBit j <;> cases hb : (rem bs w).testBit j <;> rw [ha, hb] at this <;> first | rfl | cases this
theorem minI_of : ∀ {l : List Nat} {m : Nat}, m ∈ l → (∀ x ∈ l, m ≤ x) → minI (l.map fun w : Nat => (w : Int)) = some (m : Int)
  | [], _, h, _ => by cases h
  | [a], m, h, _ => by rw [List.mem_singleton.mp h]; rfl
  | a :: b :: r, m, h, k => by
    have rest : ∃ m', m' ∈ b :: r ∧ (∀ x ∈ b :: r, m' ≤ x) := by
      have : ∀ (l : List Nat), l ≠ [] → ∃ m', m' ∈ l ∧ (∀ x ∈ l, m' ≤ x) := by
        intro l
        induction l with
        | nil => intro z; exact absurd rfl z
        | cons c l ih =>
          intro _
          by_cases hl : l = []
          · subst hl
            exact ⟨c, List.mem_cons_self, fun x hx => by rw [List.mem_singleton.mp hx]; exact Nat.le_refl _⟩
          · obtain ⟨m', h1, h2⟩ := ih hl
            by_cases q : c ≤ m'
            · refine ⟨c, List.mem_cons_self, fun x hx => ?_⟩
              rcases List.mem_cons.mp hx with rfl | hx
              · exact Nat.le_refl _
              · exact Nat.le_trans q (h2 x hx)
            · refine ⟨m', List.mem_cons_of_mem _ h1, fun x hx => ?_⟩
              rcases List.mem_cons.mp hx with rfl | hx
              · omega
              · exact h2 x hx
      exact this _ (by simp)
    obtain ⟨m', h1, h2⟩ := rest
    have ih := minI_of h1 h2
    have e : minI ((a :: b :: r).map fun w : Nat => (w : Int)) = match minI ((b :: r).map fun w : Nat => (w : Int)) with
      | some m => some (if m ≤ (a : Int) then m else (a : Int))
      | none => none := rfl
    rw [e, ih]
    dsimp only
    congr 1
    have q1 := k m' (List.mem_cons_of_mem _ h1)
    have q2 := k a List.mem_cons_self
    rcases List.mem_cons.mp h with z | z
    · subst z
      split <;> omega
    · have q3 := h2 m z
      split <;> omega
theorem withW_len (bs : List Nat) (w : Nat) : (withW bs w).length ≤ bs.length + 1 := by
  unfold withW
  split
  · omega
  · rw [(desc_perm _).length_eq]
    unfold more
    rw [List.length_append, List.length_map]
    exact Nat.le_refl _
theorem basisF_len : ∀ (ws bs : List Nat), (basisF bs ws).length ≤ bs.length + ws.length
  | [], bs => Nat.le_refl _
  | w :: ws, bs => by
    have h1 := basisF_len ws (withW bs w)
    have h2 := withW_len bs w
    show (basisF (withW bs w) ws).length ≤ _
    rw [List.length_cons]
    omega
theorem basis_len (ws : List Nat) : (basis ws).length ≤ ws.length := by
  have := basisF_len ws []
  rw [List.length_nil] at this
  unfold basis
  omega
theorem Told.basis {l : Nat} {ws : List Nat} (T : Told l ws) : Told l (Gf.basis ws) :=
  ⟨T.one, T.most, T.basN.lt, Nat.le_trans (basis_len ws) T.len⟩
theorem basis_basis (ws : List Nat) : Gf.basis (Gf.basis ws) = Gf.basis ws := basis_congr (basis_same ws)
theorem rem_lt {l : Nat} {ws : List Nat} (T : Told l ws) {w : Nat} (hw : w < 2 ^ l) : rem (Gf.basis ws) w < 2 ^ l := by
  have h1 := sp_lt T.basN.lt (rem_sp (Gf.basis ws) w)
  have := Nat.xor_lt_two_pow h1 hw
  rwa [xor_cancel] at this
theorem rem_told {ws : List Nat} {w v : Nat} (hv : v ∈ 0 :: ws) : rem (Gf.basis ws) (rem (Gf.basis ws) w ^^^ v) = rem (Gf.basis ws) w := by
  refine rem_unique (basis_bas ws).red ?_
  have h1 := rem_sp (Gf.basis ws) w
  have h2 : Sp (Gf.basis ws) v := by
    rcases List.mem_cons.mp hv with rfl | z
    · exact sp_zero _
    · exact (basis_same ws v).mpr (sp_mem z)
  have := sp_xor h1 h2
  rwa [Nat.xor_assoc, Nat.xor_comm w v, ← Nat.xor_assoc] at this
end Law
set_option Elab.async false
set_option linter.all false
set_option maxRecDepth 100000
set_option maxHeartbeats 1000000
namespace Law
open Mi Gf
section
variable {n : Nat} {h : Hh}
theorem mem3 {x a b c k : Nat} (h : x ∈ [a, b, c]) (ha : a ≤ k) (hb : b ≤ k) (hc : c ≤ k) (ha' : 0 < a) (hb' : 0 < b) (hc' : 0 < c) : 0 < x ∧ x ≤ k := by
  simp only [List.mem_cons, List.not_mem_nil, or_false] at h
  rcases h with rfl | rfl | rfl <;> omega
theorem iv_cat (ws : List Nat) (hz : ws.length ≤ 1000) : binV .add h (.tup [iv 0]) (.tup (ws.map iv)) = some (.tup ((0 :: ws).map iv)) := by
  have big := line_big
  show (if [iv 0].length + (ws.map iv).length ≤ line then some (Vl.tup ([iv 0] ++ ws.map iv)) else none) = _
  rw [if_pos (by rw [List.length_map]; show 1 + ws.length ≤ line; omega)]
  rfl
theorem lr_head {p : Nat} (hp : Pail h p) (hq : Pure h) :
    ∃ (l : Nat) (ws : List Nat) (g1 g2 : Hh), Told l ws ∧ ws.length ≤ 12 ∧ Drew h g1 p ∧ Drew h g2 p ∧
      evS GG (run GG FF (n + 7)) (.set 1 (.bin .add (.int 1) (.call 32 (.acons (.var 0) (.acons (.call 33 (.acons (.var 0) (.acons (.fz (.disp (.acons (.int 4) (.acons (.int 10) (.acons (.int 24) .anil))))) .anil))) .anil))))) [some (.ref p), none, none, none, none, none, none, none, none, none, none, none] h = .ok (.nx [some (.ref p), some (iv l), none, none, none, none, none, none, none, none, none, none]) g1 ∧
      evS GG (run GG FF (n + 7)) (.set 2 (.call 41 (.acons (.var 0) (.acons (.var 1) (.acons (.call 32 (.acons (.var 0) (.acons (.call 33 (.acons (.var 0) (.acons (.fz (.disp (.acons (.int 3) (.acons (.int 8) (.acons (.int 13) .anil))))) .anil))) .anil))) .anil))))) [some (.ref p), some (iv l), none, none, none, none, none, none, none, none, none, none] g1 = .ok (.nx [some (.ref p), some (iv l), some (.tup (ws.map iv)), none, none, none, none, none, none, none, none, none]) g2 := by
  obtain ⟨m, a1, hm, e1, d1⟩ := r33 (n := n + 5) hp [4, 10, 24] (by decide) (by decide)
  obtain ⟨m1, m2⟩ := mem3 (k := 24) hm (by decide) (by decide) (by decide) (by decide) (by decide) (by decide)
  obtain ⟨r, a2, hr, e2, d2⟩ := r32 (n := n + 6) d1.1 m1 (by have := Nat.log2_le_self m; omega)
  have d12 := d1.trans d2
  obtain ⟨k, a3, hk, e3, d3⟩ := r33 (n := n + 5) d12.1 [3, 8, 13] (by decide) (by decide)
  obtain ⟨k1, k2⟩ := mem3 (k := 13) hk (by decide) (by decide) (by decide) (by decide) (by decide) (by decide)
  have d13 := d12.trans d3
  obtain ⟨c, a4, hc, e4, d4⟩ := r32 (n := n + 6) d13.1 k1 (by have := Nat.log2_le_self k; omega)
  have d14 := d13.trans d4
  obtain ⟨ws, a5, hn, hw, e5, d5⟩ := r41 (n := n + 4) (l := 1 + r) (m := c) d14.1 (hq.drew d14) (by omega) (by omega)
  refine ⟨1 + r, ws, a2, a5, ⟨by omega, by omega, hw, by omega⟩, by omega, d12, d14.trans d5, ?_, ?_⟩
  · have l3 : ∀ env h, evE GG (run GG FF (n + 7)) (.fz (.disp (.acons (.int 4) (.acons (.int 10) (.acons (.int 24) .anil))))) env h = .ok (.lst ([4, 10, 24].map iv)) h := fun _ _ => rfl
    simp only [↓l3, evS, evE, evA, evF, evW, part1, part0, evC, List.getElem?_cons_zero, List.getElem?_cons_succ, putE, List.set_cons_zero, List.set_cons_succ, tgV, putEs, wipeE, walkC, walkF, bnd_ok', lift_some, bndS_nx, bndS_rt, iv_xor, iv_and, iv_add, iv_axor, iv_aadd, iv_eq, iv_ne, iv_lt, iv_gt, iv_le, tru_bl, int0, int1, int2, e1, e2]
  · have l3 : ∀ env h, evE GG (run GG FF (n + 7)) (.fz (.disp (.acons (.int 3) (.acons (.int 8) (.acons (.int 13) .anil))))) env h = .ok (.lst ([3, 8, 13].map iv)) h := fun _ _ => rfl
    simp only [↓l3, evS, evE, evA, evF, evW, part1, part0, evC, List.getElem?_cons_zero, List.getElem?_cons_succ, putE, List.set_cons_zero, List.set_cons_succ, tgV, putEs, wipeE, walkC, walkF, bnd_ok', lift_some, bndS_nx, bndS_rt, iv_xor, iv_and, iv_add, iv_axor, iv_aadd, iv_eq, iv_ne, iv_lt, iv_gt, iv_le, tru_bl, int0, int1, int2, e3, e4, e5]
theorem lr_turn {l p : Nat} {ws : List Nat} (T : Told l ws) (hz : ws.length ≤ 12) (hp : Pail h p) {x : Vl} {x3 x4 x6 x7 x8 x9 x10 x11 : Option Vl} :
    ∃ (w : Nat) (h' : Hh), w < 2 ^ l ∧ Drew h h' p ∧ evS GG (run GG FF (n + 7)) (.seq (.set 7 (.call 32 (.acons (.var 0) (.acons (.bin .shl (.int 1) (.var 1)) .anil)))) (.seq (.set 8 (.call 29 (.acons (.var 1) (.acons (.var 2) (.acons (.var 7) .anil))))) (.ifs (.or (.cmp .ne (.var 8) (.call 39 (.acons (.var 5) (.acons (.var 7) .anil)))) (.cmp .ne (.call 29 (.acons (.var 1) (.acons (.var 2) (.acons (.bin .xor (.var 8) (.call 33 (.acons (.var 0) (.acons (.bin .add (.tup (.acons (.int 0) .anil)) (.var 2)) .anil)))) .anil)))) (.var 8))) (.ret (.bl false)) .skip))) [some (.ref p), some (iv l), some (.tup (ws.map iv)), x3, x4, some (.tup ((Gf.basis ws).map iv)), x6, x7, x8, x9, x10, x11] h = .ok (.nx [some (.ref p), some (iv l), some (.tup (ws.map iv)), x3, x4, some (.tup ((Gf.basis ws).map iv)), x6, some (iv w), some (iv (rem (Gf.basis ws) w)), x9, x10, x11]) h' := by
  have hl : l ≤ 1000 := Nat.le_trans T.most (by decide)
  have hlog : (2 ^ l).log2 < 9000 := by rw [Nat.log2_two_pow]; omega
  obtain ⟨w, g1, hw, e1, d1⟩ := r32 (n := n + 6) hp (Nat.two_pow_pos l) hlog
  obtain ⟨v, g2, hv, e2, d2⟩ := r33t (n := n + 5) d1.1 (0 :: ws) (by simp) (by rw [List.length_cons]; omega)
  have hv2 : v < 2 ^ l := by
    rcases List.mem_cons.mp hv with rfl | z
    · exact Nat.two_pow_pos l
    · exact T.lt v z
  have hr := rem_lt T hw
  have hb : ∀ b ∈ Gf.basis ws, b ≠ 0 ∧ b < 2 ^ 24 := fun b hb => ⟨T.basN.bas.red.pos b hb, T.basis.lt24 b hb⟩
  have h1 : decide ([iv 0].length ≤ line) = true := decide_eq_true (by show 1 ≤ line; decide)
  refine ⟨w, g2, hw, d1.trans d2, ?_⟩
  simp only [evS, evE, evA, evF, evW, part1, part0, evC, List.getElem?_cons_zero, List.getElem?_cons_succ, putE, List.set_cons_zero, List.set_cons_succ, tgV, putEs, wipeE, walkC, walkF, bnd_ok', lift_some, bndS_nx, bndS_rt, iv_xor, iv_and, iv_add, iv_axor, iv_aadd, iv_eq, iv_ne, iv_lt, iv_gt, iv_le, tru_bl, int0, int1, int2, iv_shl hl, e1, r29 (n := n) T hw, r39 (n := n + 5) (Gf.basis ws) hb w, decide_true, Bool.not_true, h1, iv_cat ws (by omega), e2, r29 (n := n) T (Nat.xor_lt_two_pow hr hv2), rem_told hv]
end
end Law
set_option Elab.async false
set_option linter.all false
set_option maxRecDepth 100000
set_option maxHeartbeats 1000000
namespace Law
open Mi Gf
section
variable {n : Nat} {h : Hh}
theorem pl_words (ws : List Nat) : pl (.tup (ws.map iv)) 20 = true := pl_tup (n := 19) pl_ivs
theorem pl_wordl (ws : List Nat) : pl (.lst (ws.map iv)) 20 = true := pl_lst (n := 19) pl_ivs
theorem or_nx {cf : CF} {c : Ex} {env : Env} (e : evE GG cf c env h = .ok (.bl false) h) : evS GG cf (.ifs c (.ret (.bl false)) .skip) env h = .ok (.nx env) h := by
  simp only [evS, evE, evA, evF, evW, part1, part0, evC, List.getElem?_cons_zero, List.getElem?_cons_succ, putE, List.set_cons_zero, List.set_cons_succ, tgV, putEs, wipeE, walkC, walkF, bnd_ok', lift_some, bndS_nx, bndS_rt, iv_xor, iv_and, iv_add, iv_axor, iv_aadd, iv_eq, iv_ne, iv_lt, iv_gt, iv_le, tru_bl, int0, int1, int2, e]
theorem lr_bases {l p : Nat} {ws : List Nat} (T : Told l ws) (hz : ws.length ≤ 12) (hp : Pail h p) (hq : Pure h) {x3 x4 x7 x8 x9 x10 x11 : Option Vl} :
    ∃ h', Drew h h' p ∧ evS GG (run GG FF (n + 7)) (.ifs (.or (.cmp .ne (.var 6) (.var 5)) (.or (.cmp .ne (.call 27 (.acons (.var 1) (.acons (.call 42 (.acons (.var 0) (.acons (.var 2) .anil))) .anil))) (.var 5)) (.cmp .ne (.call 27 (.acons (.var 1) (.acons (.var 6) .anil))) (.var 6)))) (.ret (.bl false)) .skip) [some (.ref p), some (iv l), some (.tup (ws.map iv)), x3, x4, some (.tup ((Gf.basis ws).map iv)), some (.tup ((Gf.basis ws).map iv)), x7, x8, x9, x10, x11] h = .ok (.nx [some (.ref p), some (iv l), some (.tup (ws.map iv)), x3, x4, some (.tup ((Gf.basis ws).map iv)), some (.tup ((Gf.basis ws).map iv)), x7, x8, x9, x10, x11]) h' := by
  obtain ⟨us, h', hs, hu, hn, e, d⟩ := r42 (n := n + 4) (l := l) hp hq T.lt (by omega)
  have Tu : Told l us := ⟨T.one, T.most, hu, by omega⟩
  refine ⟨h', d, ?_⟩
  simp only [evS, evE, evA, evF, evW, part1, part0, evC, List.getElem?_cons_zero, List.getElem?_cons_succ, putE, List.set_cons_zero, List.set_cons_succ, tgV, putEs, wipeE, walkC, walkF, bnd_ok', lift_some, bndS_nx, bndS_rt, iv_xor, iv_and, iv_add, iv_axor, iv_aadd, iv_eq, iv_ne, iv_lt, iv_gt, iv_le, tru_bl, int0, int1, int2, ne_self (pl_words _), e, r27 (n := n + 1) Tu, basis_congr hs, r27 (n := n + 1) T.basis, basis_basis]
theorem lr_free {l p : Nat} {ws : List Nat} (T : Told l ws) {x4 x6 x7 x8 x9 x10 x11 : Option Vl} :
    evS GG (run GG FF (n + 7)) (.set 3 (.fz (.comp [7] (.n 7) (.over (.var 5)) .noe (.call 36 (.acons (.var 7) .anil))))) [some (.ref p), some (iv l), some (.tup (ws.map iv)), none, x4, some (.tup ((Gf.basis ws).map iv)), x6, x7, x8, x9, x10, x11] h = .ok (.nx [some (.ref p), some (iv l), some (.tup (ws.map iv)), some (.lst (((Gf.basis ws).map Nat.log2).map iv)), x4, some (.tup ((Gf.basis ws).map iv)), x6, x7, x8, x9, x10, x11]) h ∧
    evS GG (run GG FF (n + 7)) (.ifs (.cmp .ne (.call 28 (.acons (.var 1) (.acons (.var 2) .anil))) (.bif .tuple (.acons (.fz (.comp [10] (.n 10) (.range (.acons (.var 1) .anil)) (.sm (.cmp .notin (.var 10) (.var 3))) (.var 10))) .anil))) (.ret (.bl false)) .skip) [some (.ref p), some (iv l), some (.tup (ws.map iv)), some (.lst (((Gf.basis ws).map Nat.log2).map iv)), x4, some (.tup ((Gf.basis ws).map iv)), x6, x7, x8, x9, x10, x11] h = .ok (.nx [some (.ref p), some (iv l), some (.tup (ws.map iv)), some (.lst (((Gf.basis ws).map Nat.log2).map iv)), x4, some (.tup ((Gf.basis ws).map iv)), x6, x7, x8, x9, x10, x11]) h := by
  have big := line_big
  have hb : ∀ b ∈ Gf.basis ws, b ≠ 0 ∧ b < 2 ^ 24 := fun b hb => ⟨T.basN.bas.red.pos b hb, T.basis.lt24 b hb⟩
  constructor
  · simp only [evS, evE, evA, evF, evW, part1, part0, evC, List.getElem?_cons_zero, List.getElem?_cons_succ, putE, List.set_cons_zero, List.set_cons_succ, tgV, putEs, wipeE, walkC, walkF, bnd_ok', lift_some, bndS_nx, bndS_rt, iv_xor, iv_and, iv_add, iv_axor, iv_aadd, iv_eq, iv_ne, iv_lt, iv_gt, iv_le, tru_bl, int0, int1, int2]
    rw [compL_map (k := fun b => iv b.log2) (by have := T.basis.len; simp only [List.length_nil]; omega) ?_]
    · simp only [evS, evE, evA, evF, evW, part1, part0, evC, List.getElem?_cons_zero, List.getElem?_cons_succ, putE, List.set_cons_zero, List.set_cons_succ, tgV, putEs, wipeE, walkC, walkF, bnd_ok', lift_some, bndS_nx, bndS_rt, iv_xor, iv_and, iv_add, iv_axor, iv_aadd, iv_eq, iv_ne, iv_lt, iv_gt, iv_le, tru_bl, int0, int1, int2, List.nil_append, List.map_map]
      rfl
    · intro b hb'
      simp only [evS, evE, evA, evF, evW, part1, part0, evC, List.getElem?_cons_zero, List.getElem?_cons_succ, putE, List.set_cons_zero, List.set_cons_succ, tgV, putEs, wipeE, walkC, walkF, bnd_ok', lift_some, bndS_nx, bndS_rt, iv_xor, iv_and, iv_add, iv_axor, iv_aadd, iv_eq, iv_ne, iv_lt, iv_gt, iv_le, tru_bl, int0, int1, int2, r36 (n := n + 6) b (hb b hb').2 (hb b hb').1]
  · have hl := T.most
    have e : rangeL ((l : Int)).toNat 0 1 = (List.range l).map iv := by rw [Int.toNat_natCast, range_iv0]
    have hd : decide (((l : Nat) : Int).natAbs < 1000000000) = true := decide_eq_true (by omega)
    have q : evE GG (run GG FF (n + 7)) (.bif .tuple (.acons (.fz (.comp [10] (.n 10) (.range (.acons (.var 1) .anil)) (.sm (.cmp .notin (.var 10) (.var 3))) (.var 10))) .anil)) [some (.ref p), some (iv l), some (.tup (ws.map iv)), some (.lst (((Gf.basis ws).map Nat.log2).map iv)), x4, some (.tup ((Gf.basis ws).map iv)), x6, x7, x8, x9, x10, x11] h = .ok (.tup (((List.range l).filter fun p => !((Gf.basis ws).map Nat.log2).contains p).map iv)) h := by
      simp only [evS, evE, evA, evF, evW, part1, part0, evC, List.getElem?_cons_zero, List.getElem?_cons_succ, putE, List.set_cons_zero, List.set_cons_succ, tgV, putEs, wipeE, walkC, walkF, bnd_ok', lift_some, bndS_nx, bndS_rt, iv_xor, iv_and, iv_add, iv_axor, iv_aadd, iv_eq, iv_ne, iv_lt, iv_gt, iv_le, tru_bl, int0, int1, int2]
      rw [show iv l = Vl.int (l : Nat) from rfl]
      simp only [hd, e, evS, evE, evA, evF, evW, part1, part0, evC, List.getElem?_cons_zero, List.getElem?_cons_succ, putE, List.set_cons_zero, List.set_cons_succ, tgV, putEs, wipeE, walkC, walkF, bnd_ok', lift_some, bndS_nx, bndS_rt, iv_xor, iv_and, iv_add, iv_axor, iv_aadd, iv_eq, iv_ne, iv_lt, iv_gt, iv_le, tru_bl, int0, int1, int2]
      rw [compL_filter (p := fun p => !((Gf.basis ws).map Nat.log2).contains p) (k := iv) (by simp; omega) ?_]
      · simp only [evS, evE, evA, evF, evW, part1, part0, evC, List.getElem?_cons_zero, List.getElem?_cons_succ, putE, List.set_cons_zero, List.set_cons_succ, tgV, putEs, wipeE, walkC, walkF, bnd_ok', lift_some, bndS_nx, bndS_rt, iv_xor, iv_and, iv_add, iv_axor, iv_aadd, iv_eq, iv_ne, iv_lt, iv_gt, iv_le, tru_bl, int0, int1, int2, List.nil_append, bifV, arg1, tupleV, seqOf]
      · intro p hp
        simp only [evS, evE, evA, evF, evW, part1, part0, evC, List.getElem?_cons_zero, List.getElem?_cons_succ, putE, List.set_cons_zero, List.set_cons_succ, tgV, putEs, wipeE, walkC, walkF, bnd_ok', lift_some, bndS_nx, bndS_rt, iv_xor, iv_and, iv_add, iv_axor, iv_aadd, iv_eq, iv_ne, iv_lt, iv_gt, iv_le, tru_bl, int0, int1, int2, cmpV, in_iv]
        cases ((Gf.basis ws).map Nat.log2).contains p with
        | true => simp only [evS, evE, evA, evF, evW, part1, part0, evC, List.getElem?_cons_zero, List.getElem?_cons_succ, putE, List.set_cons_zero, List.set_cons_succ, tgV, putEs, wipeE, walkC, walkF, bnd_ok', lift_some, bndS_nx, bndS_rt, iv_xor, iv_and, iv_add, iv_axor, iv_aadd, iv_eq, iv_ne, iv_lt, iv_gt, iv_le, tru_bl, int0, int1, int2, Bool.not_true, Bool.false_eq_true, if_false]
        | false => simp only [evS, evE, evA, evF, evW, part1, part0, evC, List.getElem?_cons_zero, List.getElem?_cons_succ, putE, List.set_cons_zero, List.set_cons_succ, tgV, putEs, wipeE, walkC, walkF, bnd_ok', lift_some, bndS_nx, bndS_rt, iv_xor, iv_and, iv_add, iv_axor, iv_aadd, iv_eq, iv_ne, iv_lt, iv_gt, iv_le, tru_bl, int0, int1, int2, Bool.not_false, if_true]
    refine or_nx ?_
    show bnd (evE GG (run GG FF (n + 7)) (.call 28 (.acons (.var 1) (.acons (.var 2) .anil))) _ _) (fun x h => bnd (evE GG (run GG FF (n + 7)) (.bif .tuple (.acons (.fz (.comp [10] (.n 10) (.range (.acons (.var 1) .anil)) (.sm (.cmp .notin (.var 10) (.var 3))) (.var 10))) .anil)) _ h) _) = _
    have q0 : ∀ env : Env, env[1]? = some (some (iv l)) → env[2]? = some (some (.tup (ws.map iv))) → evE GG (run GG FF (n + 7)) (.call 28 (.acons (.var 1) (.acons (.var 2) .anil))) env h = .ok (.tup (((List.range l).filter fun p => !((Gf.basis ws).map Nat.log2).contains p).map iv)) h := fun env z1 z2 => by
      simp only [evS, evE, evA, evF, evW, part1, part0, evC, List.getElem?_cons_zero, List.getElem?_cons_succ, putE, List.set_cons_zero, List.set_cons_succ, tgV, putEs, wipeE, walkC, walkF, bnd_ok', lift_some, bndS_nx, bndS_rt, iv_xor, iv_and, iv_add, iv_axor, iv_aadd, iv_eq, iv_ne, iv_lt, iv_gt, iv_le, tru_bl, int0, int1, int2, z1, z2, r28 (n := n + 1) T]
    rw [q0 _ rfl rfl, bnd_ok', q, bnd_ok']
    simp only [evS, evE, evA, evF, evW, part1, part0, evC, List.getElem?_cons_zero, List.getElem?_cons_succ, putE, List.set_cons_zero, List.set_cons_succ, tgV, putEs, wipeE, walkC, walkF, bnd_ok', lift_some, bndS_nx, bndS_rt, iv_xor, iv_and, iv_add, iv_axor, iv_aadd, iv_eq, iv_ne, iv_lt, iv_gt, iv_le, tru_bl, int0, int1, int2, ne_self (pl_words _)]
theorem lr_loop {l p : Nat} {ws : List Nat} (T : Told l ws) (hz : ws.length ≤ 12) (hp : Pail h p) {x3 x6 x9 x10 x11 : Option Vl} :
    ∃ (w : Nat) (x4 : Option Vl) (h' : Hh), w < 2 ^ l ∧ Drew h h' p ∧ evS GG (run GG FF (n + 7)) (.fors (.n 4) (.range (.acons (.int 4) .anil)) (.seq (.set 7 (.call 32 (.acons (.var 0) (.acons (.bin .shl (.int 1) (.var 1)) .anil)))) (.seq (.set 8 (.call 29 (.acons (.var 1) (.acons (.var 2) (.acons (.var 7) .anil))))) (.ifs (.or (.cmp .ne (.var 8) (.call 39 (.acons (.var 5) (.acons (.var 7) .anil)))) (.cmp .ne (.call 29 (.acons (.var 1) (.acons (.var 2) (.acons (.bin .xor (.var 8) (.call 33 (.acons (.var 0) (.acons (.bin .add (.tup (.acons (.int 0) .anil)) (.var 2)) .anil)))) .anil)))) (.var 8))) (.ret (.bl false)) .skip)))) [some (.ref p), some (iv l), some (.tup (ws.map iv)), x3, none, some (.tup ((Gf.basis ws).map iv)), x6, none, none, x9, x10, x11] h = .ok (.nx [some (.ref p), some (iv l), some (.tup (ws.map iv)), x3, x4, some (.tup ((Gf.basis ws).map iv)), x6, some (iv w), some (iv (rem (Gf.basis ws) w)), x9, x10, x11]) h' := by
  obtain ⟨env', h', e, x4, x7, x8, rfl, d, k⟩ := for_pre (G := GG) (cf := run GG FF (n + 7)) (tg := .n 4) (b := (.seq (.set 7 (.call 32 (.acons (.var 0) (.acons (.bin .shl (.int 1) (.var 1)) .anil)))) (.seq (.set 8 (.call 29 (.acons (.var 1) (.acons (.var 2) (.acons (.var 7) .anil))))) (.ifs (.or (.cmp .ne (.var 8) (.call 39 (.acons (.var 5) (.acons (.var 7) .anil)))) (.cmp .ne (.call 29 (.acons (.var 1) (.acons (.var 2) (.acons (.bin .xor (.var 8) (.call 33 (.acons (.var 0) (.acons (.bin .add (.tup (.acons (.int 0) .anil)) (.var 2)) .anil)))) .anil)))) (.var 8))) (.ret (.bl false)) .skip)))) (g := iv) (xs := List.range 4) (env := [some (.ref p), some (iv l), some (.tup (ws.map iv)), x3, none, some (.tup ((Gf.basis ws).map iv)), x6, none, none, x9, x10, x11]) (h := h)
    (fun pre env h' => ∃ (x4 x7 x8 : Option Vl), env = [some (.ref p), some (iv l), some (.tup (ws.map iv)), x3, x4, some (.tup ((Gf.basis ws).map iv)), x6, x7, x8, x9, x10, x11] ∧ Drew h h' p ∧ (pre ≠ [] → ∃ w, w < 2 ^ l ∧ x7 = some (iv w) ∧ x8 = some (iv (rem (Gf.basis ws) w))))
    ⟨none, none, none, rfl, Drew.refl hp, fun z => absurd rfl z⟩
    (fun pre x post ex env h' i => by
      obtain ⟨x4, x7, x8, rfl, d, _⟩ := i
      obtain ⟨w, h2, hw, d2, e2⟩ := lr_turn (n := n) (h := h') (p := p) T hz d.1 (x := iv x) (x3 := x3) (x4 := some (iv x)) (x6 := x6) (x7 := x7) (x8 := x8) (x9 := x9) (x10 := x10) (x11 := x11)
      exact ⟨_, _, h2, rfl, e2, some (iv x), _, _, rfl, d.trans d2, fun _ => ⟨w, hw, rfl, rfl⟩⟩)
  obtain ⟨w, hw, rfl, rfl⟩ := k (by decide)
  refine ⟨w, x4, h', hw, d, ?_⟩
  rw [ev_fors]
  have q : ∀ env, evW GG (run GG FF (n + 7)) (.range (.acons (.int 4) .anil)) env h = .ok (.its ((List.range 4).map iv)) h := fun _ => rfl
  rw [q, bnd_ok']
  exact e
theorem lr_span {l p w : Nat} {ws : List Nat} (T : Told l ws) (hw : w < 2 ^ l) (hq : Pure h) {x3 x4 x6 x9 x10 x11 : Option Vl} :
    ∃ y9 : Option Vl, evS GG (run GG FF (n + 7)) (.ifs (.cmp .lt (.bif .len (.acons (.var 5) .anil)) (.int 9)) (.seq (.set 9 (.call 30 (.acons (.var 1) (.acons (.var 2) .anil)))) (.ifs (.or (.cmp .ne (.fz (.listof (.var 9))) (.call 40 (.acons (.var 5) .anil))) (.or (.cmp .ne (.var 8) (.bif .minl (.acons (.fz (.comp [11] (.n 11) (.over (.var 9)) .noe (.bin .xor (.var 7) (.var 11)))) .anil))) (.cmp .ne (.bif .len (.acons (.var 9) .anil)) (.bin .shl (.int 1) (.bif .len (.acons (.var 5) .anil)))))) (.ret (.bl false)) .skip)) .skip) [some (.ref p), some (iv l), some (.tup (ws.map iv)), x3, x4, some (.tup ((Gf.basis ws).map iv)), x6, some (iv w), some (iv (rem (Gf.basis ws) w)), x9, x10, x11] h = .ok (.nx [some (.ref p), some (iv l), some (.tup (ws.map iv)), x3, x4, some (.tup ((Gf.basis ws).map iv)), x6, some (iv w), some (iv (rem (Gf.basis ws) w)), y9, x10, x11]) h := by
  have big := line_big
  have e1 : bifV .len h [.tup ((Gf.basis ws).map iv)] = some (iv (Gf.basis ws).length) := len_words _
  have i9 : Vl.int 9 = iv 9 := rfl
  by_cases h9 : (Gf.basis ws).length < 9
  · refine ⟨some (.tup ((spanF (Gf.basis ws).reverse [0]).map iv)), ?_⟩
    have hs : spanF (Gf.basis ws).reverse [0] = sortN (spanF (Gf.basis ws) [0]) := span_same (basis_bas ws)
    have hlen : (spanF (Gf.basis ws).reverse [0]).length = 2 ^ (Gf.basis ws).length := by rw [spanF_len, List.length_reverse, List.length_singleton, Nat.one_mul]
    have hle : 2 ^ (Gf.basis ws).length ≤ 512 := Nat.le_trans (Nat.pow_le_pow_right (by decide) (Nat.le_of_lt h9)) (by decide)
    have s1 : evS GG (run GG FF (n + 7)) (.set 9 (.call 30 (.acons (.var 1) (.acons (.var 2) .anil)))) [some (.ref p), some (iv l), some (.tup (ws.map iv)), x3, x4, some (.tup ((Gf.basis ws).map iv)), x6, some (iv w), some (iv (rem (Gf.basis ws) w)), x9, x10, x11] h = .ok (.nx [some (.ref p), some (iv l), some (.tup (ws.map iv)), x3, x4, some (.tup ((Gf.basis ws).map iv)), x6, some (iv w), some (iv (rem (Gf.basis ws) w)), some (.tup ((spanF (Gf.basis ws).reverse [0]).map iv)), x10, x11]) h := by
      simp only [evS, evE, evA, evF, evW, part1, part0, evC, List.getElem?_cons_zero, List.getElem?_cons_succ, putE, List.set_cons_zero, List.set_cons_succ, tgV, putEs, wipeE, walkC, walkF, bnd_ok', lift_some, bndS_nx, bndS_rt, iv_xor, iv_and, iv_add, iv_axor, iv_aadd, iv_eq, iv_ne, iv_lt, iv_gt, iv_le, tru_bl, int0, int1, int2, r30 (n := n + 1) T (by omega) (hq.wf _)]
    have s2 : evE GG (run GG FF (n + 7)) (.bif .minl (.acons (.fz (.comp [11] (.n 11) (.over (.var 9)) .noe (.bin .xor (.var 7) (.var 11)))) .anil)) [some (.ref p), some (iv l), some (.tup (ws.map iv)), x3, x4, some (.tup ((Gf.basis ws).map iv)), x6, some (iv w), some (iv (rem (Gf.basis ws) w)), some (.tup ((spanF (Gf.basis ws).reverse [0]).map iv)), x10, x11] h = .ok (iv (rem (Gf.basis ws) w)) h := by
      simp only [evS, evE, evA, evF, evW, part1, part0, evC, List.getElem?_cons_zero, List.getElem?_cons_succ, putE, List.set_cons_zero, List.set_cons_succ, tgV, putEs, wipeE, walkC, walkF, bnd_ok', lift_some, bndS_nx, bndS_rt, iv_xor, iv_and, iv_add, iv_axor, iv_aadd, iv_eq, iv_ne, iv_lt, iv_gt, iv_le, tru_bl, int0, int1, int2]
      rw [compL_map (k := fun s => iv (w ^^^ s)) (by rw [hlen]; simp only [List.length_nil]; omega) ?_]
      · have e : (spanF (Gf.basis ws).reverse [0]).map (fun s => iv (w ^^^ s)) = ((spanF (Gf.basis ws).reverse [0]).map (w ^^^ ·)).map iv := by rw [List.map_map]; rfl
        have m : minI (((spanF (Gf.basis ws).reverse [0]).map (w ^^^ ·)).map fun w : Nat => (w : Int)) = some ((rem (Gf.basis ws) w : Nat) : Int) := by
          refine minI_of ?_ ?_
          · refine List.mem_map.mpr ⟨rem (Gf.basis ws) w ^^^ w, ?_, ?_⟩
            · rw [hs]
              exact (sortN_perm _).mem_iff.mpr (mem_span0.mpr (rem_sp _ _))
            · rw [Nat.xor_comm (rem (Gf.basis ws) w) w, ← Nat.xor_assoc, Nat.xor_self, Nat.zero_xor]
          · intro x hx
            obtain ⟨s, hs2, rfl⟩ := List.mem_map.mp hx
            rw [hs] at hs2
            exact rem_least (basis_bas ws).red w s (mem_span0.mp ((sortN_perm _).mem_iff.mp hs2))
        simp only [evS, evE, evA, evF, evW, part1, part0, evC, List.getElem?_cons_zero, List.getElem?_cons_succ, putE, List.set_cons_zero, List.set_cons_succ, tgV, putEs, wipeE, walkC, walkF, bnd_ok', lift_some, bndS_nx, bndS_rt, iv_xor, iv_and, iv_add, iv_axor, iv_aadd, iv_eq, iv_ne, iv_lt, iv_gt, iv_le, tru_bl, int0, int1, int2, List.nil_append, e, bifV, arg1, ofInts, lstOf, ints_iv, m]
        rfl
      · intro s _
        simp only [evS, evE, evA, evF, evW, part1, part0, evC, List.getElem?_cons_zero, List.getElem?_cons_succ, putE, List.set_cons_zero, List.set_cons_succ, tgV, putEs, wipeE, walkC, walkF, bnd_ok', lift_some, bndS_nx, bndS_rt, iv_xor, iv_and, iv_add, iv_axor, iv_aadd, iv_eq, iv_ne, iv_lt, iv_gt, iv_le, tru_bl, int0, int1, int2]
    have e2 : ∀ env : Env, env[9]? = some (some (.tup ((spanF (Gf.basis ws).reverse [0]).map iv))) → evE GG (run GG FF (n + 7)) (.fz (.listof (.var 9))) env h = .ok (.lst ((spanF (Gf.basis ws).reverse [0]).map iv)) h := fun env z => by
      simp only [evS, evE, evA, evF, evW, part1, part0, evC, List.getElem?_cons_zero, List.getElem?_cons_succ, putE, List.set_cons_zero, List.set_cons_succ, tgV, putEs, wipeE, walkC, walkF, bnd_ok', lift_some, bndS_nx, bndS_rt, iv_xor, iv_and, iv_add, iv_axor, iv_aadd, iv_eq, iv_ne, iv_lt, iv_gt, iv_le, tru_bl, int0, int1, int2, z, seqOf]
    have e3 : bifV .len h [.tup ((spanF (Gf.basis ws).reverse [0]).map iv)] = some (iv (2 ^ (Gf.basis ws).length)) := by rw [← hlen]; exact len_words _
    have s3 : evS GG (run GG FF (n + 7)) (.ifs (.or (.cmp .ne (.fz (.listof (.var 9))) (.call 40 (.acons (.var 5) .anil))) (.or (.cmp .ne (.var 8) (.bif .minl (.acons (.fz (.comp [11] (.n 11) (.over (.var 9)) .noe (.bin .xor (.var 7) (.var 11)))) .anil))) (.cmp .ne (.bif .len (.acons (.var 9) .anil)) (.bin .shl (.int 1) (.bif .len (.acons (.var 5) .anil)))))) (.ret (.bl false)) .skip) [some (.ref p), some (iv l), some (.tup (ws.map iv)), x3, x4, some (.tup ((Gf.basis ws).map iv)), x6, some (iv w), some (iv (rem (Gf.basis ws) w)), some (.tup ((spanF (Gf.basis ws).reverse [0]).map iv)), x10, x11] h = .ok (.nx [some (.ref p), some (iv l), some (.tup (ws.map iv)), x3, x4, some (.tup ((Gf.basis ws).map iv)), x6, some (iv w), some (iv (rem (Gf.basis ws) w)), some (.tup ((spanF (Gf.basis ws).reverse [0]).map iv)), x10, x11]) h := by
      refine or_nx ?_
      have t1 : evE GG (run GG FF (n + 7)) (.cmp .ne (.fz (.listof (.var 9))) (.call 40 (.acons (.var 5) .anil))) [some (.ref p), some (iv l), some (.tup (ws.map iv)), x3, x4, some (.tup ((Gf.basis ws).map iv)), x6, some (iv w), some (iv (rem (Gf.basis ws) w)), some (.tup ((spanF (Gf.basis ws).reverse [0]).map iv)), x10, x11] h = .ok (.bl false) h := by
        have r := r40 (n := n + 6) (h := h) (Gf.basis ws) (by omega)
        rw [← hs] at r
        simp only [↓e2, evS, evE, evA, evF, evW, part1, part0, evC, List.getElem?_cons_zero, List.getElem?_cons_succ, putE, List.set_cons_zero, List.set_cons_succ, tgV, putEs, wipeE, walkC, walkF, bnd_ok', lift_some, bndS_nx, bndS_rt, iv_xor, iv_and, iv_add, iv_axor, iv_aadd, iv_eq, iv_ne, iv_lt, iv_gt, iv_le, tru_bl, int0, int1, int2, seqOf, r, ne_self (pl_wordl _)]
      have t2 : evE GG (run GG FF (n + 7)) (.cmp .ne (.bif .len (.acons (.var 9) .anil)) (.bin .shl (.int 1) (.bif .len (.acons (.var 5) .anil)))) [some (.ref p), some (iv l), some (.tup (ws.map iv)), x3, x4, some (.tup ((Gf.basis ws).map iv)), x6, some (iv w), some (iv (rem (Gf.basis ws) w)), some (.tup ((spanF (Gf.basis ws).reverse [0]).map iv)), x10, x11] h = .ok (.bl false) h := by
        simp only [evS, evE, evA, evF, evW, part1, part0, evC, List.getElem?_cons_zero, List.getElem?_cons_succ, putE, List.set_cons_zero, List.set_cons_succ, tgV, putEs, wipeE, walkC, walkF, bnd_ok', lift_some, bndS_nx, bndS_rt, iv_xor, iv_and, iv_add, iv_axor, iv_aadd, iv_eq, iv_ne, iv_lt, iv_gt, iv_le, tru_bl, int0, int1, int2, e3, e1, iv_shl (show (Gf.basis ws).length ≤ 1000 by omega), decide_true, Bool.not_true]
      have t3 : evE GG (run GG FF (n + 7)) (.cmp .ne (.var 8) (.bif .minl (.acons (.fz (.comp [11] (.n 11) (.over (.var 9)) .noe (.bin .xor (.var 7) (.var 11)))) .anil))) [some (.ref p), some (iv l), some (.tup (ws.map iv)), x3, x4, some (.tup ((Gf.basis ws).map iv)), x6, some (iv w), some (iv (rem (Gf.basis ws) w)), some (.tup ((spanF (Gf.basis ws).reverse [0]).map iv)), x10, x11] h = .ok (.bl false) h := by
        show bnd (R.ok (iv (rem (Gf.basis ws) w)) h) (fun x h => bnd (evE GG (run GG FF (n + 7)) (.bif .minl (.acons (.fz (.comp [11] (.n 11) (.over (.var 9)) .noe (.bin .xor (.var 7) (.var 11)))) .anil)) _ h) _) = _
        rw [bnd_ok', s2, bnd_ok']
        simp only [evS, evE, evA, evF, evW, part1, part0, evC, List.getElem?_cons_zero, List.getElem?_cons_succ, putE, List.set_cons_zero, List.set_cons_succ, tgV, putEs, wipeE, walkC, walkF, bnd_ok', lift_some, bndS_nx, bndS_rt, iv_xor, iv_and, iv_add, iv_axor, iv_aadd, iv_eq, iv_ne, iv_lt, iv_gt, iv_le, tru_bl, int0, int1, int2, decide_true, Bool.not_true]
      show bnd (evE GG (run GG FF (n + 7)) (.cmp .ne (.fz (.listof (.var 9))) (.call 40 (.acons (.var 5) .anil))) _ h) _ = _
      rw [t1, bnd_ok']
      show bnd (evE GG (run GG FF (n + 7)) (.cmp .ne (.var 8) (.bif .minl (.acons (.fz (.comp [11] (.n 11) (.over (.var 9)) .noe (.bin .xor (.var 7) (.var 11)))) .anil))) _ h) _ = _
      rw [t3, bnd_ok']
      exact t2
    have c : evE GG (run GG FF (n + 7)) (.cmp .lt (.bif .len (.acons (.var 5) .anil)) (.int 9)) [some (.ref p), some (iv l), some (.tup (ws.map iv)), x3, x4, some (.tup ((Gf.basis ws).map iv)), x6, some (iv w), some (iv (rem (Gf.basis ws) w)), x9, x10, x11] h = .ok (.bl true) h := by
      simp only [evS, evE, evA, evF, evW, part1, part0, evC, List.getElem?_cons_zero, List.getElem?_cons_succ, putE, List.set_cons_zero, List.set_cons_succ, tgV, putEs, wipeE, walkC, walkF, bnd_ok', lift_some, bndS_nx, bndS_rt, iv_xor, iv_and, iv_add, iv_axor, iv_aadd, iv_eq, iv_ne, iv_lt, iv_gt, iv_le, tru_bl, int0, int1, int2, e1, i9, decide_eq_true h9]
    show bnd (evE GG (run GG FF (n + 7)) (.cmp .lt (.bif .len (.acons (.var 5) .anil)) (.int 9)) _ h) _ = _
    rw [c, bnd_ok']
    show evS GG (run GG FF (n + 7)) (.seq (.set 9 (.call 30 (.acons (.var 1) (.acons (.var 2) .anil)))) (.ifs (.or (.cmp .ne (.fz (.listof (.var 9))) (.call 40 (.acons (.var 5) .anil))) (.or (.cmp .ne (.var 8) (.bif .minl (.acons (.fz (.comp [11] (.n 11) (.over (.var 9)) .noe (.bin .xor (.var 7) (.var 11)))) .anil))) (.cmp .ne (.bif .len (.acons (.var 9) .anil)) (.bin .shl (.int 1) (.bif .len (.acons (.var 5) .anil)))))) (.ret (.bl false)) .skip)) _ h = _
    rw [ev_seq, s1, bndS_nx, s3]
  · refine ⟨x9, ?_⟩
    simp only [evS, evE, evA, evF, evW, part1, part0, evC, List.getElem?_cons_zero, List.getElem?_cons_succ, putE, List.set_cons_zero, List.set_cons_succ, tgV, putEs, wipeE, walkC, walkF, bnd_ok', lift_some, bndS_nx, bndS_rt, iv_xor, iv_and, iv_add, iv_axor, iv_aadd, iv_eq, iv_ne, iv_lt, iv_gt, iv_le, tru_bl, int0, int1, int2, e1, i9, decide_eq_false h9]
theorem r44 {p : Nat} (hp : Pail h p) (hq : Pure h) : ∃ h', run GG FF (n + 8) 44 [.ref p] h = .ok (.bl true) h' ∧ Drew h h' p := by
  obtain ⟨l, ws, g1, g2, T, hz, d1, d2, s1, s2⟩ := lr_head (n := n) hp hq
  have hq2 := hq.drew d2
  have s3 : evS GG (run GG FF (n + 7)) (.par [5, 6] (.acons (.call 38 (.acons (.var 2) .anil)) (.acons (.call 27 (.acons (.var 1) (.acons (.var 2) .anil))) .anil))) [some (.ref p), some (iv l), some (.tup (ws.map iv)), none, none, none, none, none, none, none, none, none] g2 = .ok (.nx [some (.ref p), some (iv l), some (.tup (ws.map iv)), none, none, some (.tup ((Gf.basis ws).map iv)), some (.tup ((Gf.basis ws).map iv)), none, none, none, none, none]) g2 := by
    simp only [evS, evE, evA, evF, evW, part1, part0, evC, List.getElem?_cons_zero, List.getElem?_cons_succ, putE, List.set_cons_zero, List.set_cons_succ, tgV, putEs, wipeE, walkC, walkF, bnd_ok', lift_some, bndS_nx, bndS_rt, iv_xor, iv_and, iv_add, iv_axor, iv_aadd, iv_eq, iv_ne, iv_lt, iv_gt, iv_le, tru_bl, int0, int1, int2, r38 (n := n + 5) T.lt24 (by omega) (hq2.wf _), r27 (n := n + 1) T]
  obtain ⟨g4, d4, s4⟩ := lr_bases (n := n) (h := g2) T hz d2.1 hq2 (x3 := none) (x4 := none) (x7 := none) (x8 := none) (x9 := none) (x10 := none) (x11 := none)
  obtain ⟨s5, s6⟩ := lr_free (n := n) (h := g4) (p := p) T (x4 := none) (x6 := some (.tup ((Gf.basis ws).map iv))) (x7 := none) (x8 := none) (x9 := none) (x10 := none) (x11 := none)
  have d24 := d2.trans d4
  obtain ⟨w, x4, g5, hw, d5, s7⟩ := lr_loop (n := n) (h := g4) (p := p) T hz d24.1 (x3 := some (.lst (((Gf.basis ws).map Nat.log2).map iv))) (x6 := some (.tup ((Gf.basis ws).map iv))) (x9 := none) (x10 := none) (x11 := none)
  have d25 := d24.trans d5
  obtain ⟨y9, s8⟩ := lr_span (n := n) (h := g5) (p := p) T hw (hq.drew d25) (x3 := some (.lst (((Gf.basis ws).map Nat.log2).map iv))) (x4 := x4) (x6 := some (.tup ((Gf.basis ws).map iv))) (x9 := none) (x10 := none) (x11 := none)
  obtain ⟨g6, e6, d6⟩ := r43 (n := n + 2) (h := g5) d25.1 T.one T.most
  have d26 := d25.trans d6
  refine ⟨g6, ?_, d26⟩
  rw [run_eq (d := f44) rfl rfl]
  have e : evS GG (run GG FF (n + 7)) (.seq (.set 1 (.bin .add (.int 1) (.call 32 (.acons (.var 0) (.acons (.call 33 (.acons (.var 0) (.acons (.fz (.disp (.acons (.int 4) (.acons (.int 10) (.acons (.int 24) .anil))))) .anil))) .anil))))) (.seq (.set 2 (.call 41 (.acons (.var 0) (.acons (.var 1) (.acons (.call 32 (.acons (.var 0) (.acons (.call 33 (.acons (.var 0) (.acons (.fz (.disp (.acons (.int 3) (.acons (.int 8) (.acons (.int 13) .anil))))) .anil))) .anil))) .anil))))) (.seq (.par [5, 6] (.acons (.call 38 (.acons (.var 2) .anil)) (.acons (.call 27 (.acons (.var 1) (.acons (.var 2) .anil))) .anil))) (.seq (.ifs (.or (.cmp .ne (.var 6) (.var 5)) (.or (.cmp .ne (.call 27 (.acons (.var 1) (.acons (.call 42 (.acons (.var 0) (.acons (.var 2) .anil))) .anil))) (.var 5)) (.cmp .ne (.call 27 (.acons (.var 1) (.acons (.var 6) .anil))) (.var 6)))) (.ret (.bl false)) .skip) (.seq (.set 3 (.fz (.comp [7] (.n 7) (.over (.var 5)) .noe (.call 36 (.acons (.var 7) .anil))))) (.seq (.ifs (.cmp .ne (.call 28 (.acons (.var 1) (.acons (.var 2) .anil))) (.bif .tuple (.acons (.fz (.comp [10] (.n 10) (.range (.acons (.var 1) .anil)) (.sm (.cmp .notin (.var 10) (.var 3))) (.var 10))) .anil))) (.ret (.bl false)) .skip) (.seq (.fors (.n 4) (.range (.acons (.int 4) .anil)) (.seq (.set 7 (.call 32 (.acons (.var 0) (.acons (.bin .shl (.int 1) (.var 1)) .anil)))) (.seq (.set 8 (.call 29 (.acons (.var 1) (.acons (.var 2) (.acons (.var 7) .anil))))) (.ifs (.or (.cmp .ne (.var 8) (.call 39 (.acons (.var 5) (.acons (.var 7) .anil)))) (.cmp .ne (.call 29 (.acons (.var 1) (.acons (.var 2) (.acons (.bin .xor (.var 8) (.call 33 (.acons (.var 0) (.acons (.bin .add (.tup (.acons (.int 0) .anil)) (.var 2)) .anil)))) .anil)))) (.var 8))) (.ret (.bl false)) .skip)))) (.seq (.ifs (.cmp .lt (.bif .len (.acons (.var 5) .anil)) (.int 9)) (.seq (.set 9 (.call 30 (.acons (.var 1) (.acons (.var 2) .anil)))) (.ifs (.or (.cmp .ne (.fz (.listof (.var 9))) (.call 40 (.acons (.var 5) .anil))) (.or (.cmp .ne (.var 8) (.bif .minl (.acons (.fz (.comp [11] (.n 11) (.over (.var 9)) .noe (.bin .xor (.var 7) (.var 11)))) .anil))) (.cmp .ne (.bif .len (.acons (.var 9) .anil)) (.bin .shl (.int 1) (.bif .len (.acons (.var 5) .anil)))))) (.ret (.bl false)) .skip)) .skip) (.ret (.call 43 (.acons (.var 0) (.acons (.var 1) .anil)))))))))))) [some (.ref p), none, none, none, none, none, none, none, none, none, none, none] h = .ok (.rt (.bl true)) g6 := by
    rw [ev_seq, s1, bndS_nx, ev_seq, s2, bndS_nx, ev_seq, s3, bndS_nx, ev_seq, s4, bndS_nx, ev_seq, s5, bndS_nx, ev_seq, s6, bndS_nx, ev_seq, s7, bndS_nx, ev_seq, s8, bndS_nx]
    simp only [evS, evE, evA, evF, evW, part1, part0, evC, List.getElem?_cons_zero, List.getElem?_cons_succ, putE, List.set_cons_zero, List.set_cons_succ, tgV, putEs, wipeE, walkC, walkF, bnd_ok', lift_some, bndS_nx, bndS_rt, iv_xor, iv_and, iv_add, iv_axor, iv_aadd, iv_eq, iv_ne, iv_lt, iv_gt, iv_le, tru_bl, int0, int1, int2, e6]
  show endF f44.frz h.length (evS GG (run GG FF (n + 7)) (.seq (.set 1 (.bin .add (.int 1) (.call 32 (.acons (.var 0) (.acons (.call 33 (.acons (.var 0) (.acons (.fz (.disp (.acons (.int 4) (.acons (.int 10) (.acons (.int 24) .anil))))) .anil))) .anil))))) (.seq (.set 2 (.call 41 (.acons (.var 0) (.acons (.var 1) (.acons (.call 32 (.acons (.var 0) (.acons (.call 33 (.acons (.var 0) (.acons (.fz (.disp (.acons (.int 3) (.acons (.int 8) (.acons (.int 13) .anil))))) .anil))) .anil))) .anil))))) (.seq (.par [5, 6] (.acons (.call 38 (.acons (.var 2) .anil)) (.acons (.call 27 (.acons (.var 1) (.acons (.var 2) .anil))) .anil))) (.seq (.ifs (.or (.cmp .ne (.var 6) (.var 5)) (.or (.cmp .ne (.call 27 (.acons (.var 1) (.acons (.call 42 (.acons (.var 0) (.acons (.var 2) .anil))) .anil))) (.var 5)) (.cmp .ne (.call 27 (.acons (.var 1) (.acons (.var 6) .anil))) (.var 6)))) (.ret (.bl false)) .skip) (.seq (.set 3 (.fz (.comp [7] (.n 7) (.over (.var 5)) .noe (.call 36 (.acons (.var 7) .anil))))) (.seq (.ifs (.cmp .ne (.call 28 (.acons (.var 1) (.acons (.var 2) .anil))) (.bif .tuple (.acons (.fz (.comp [10] (.n 10) (.range (.acons (.var 1) .anil)) (.sm (.cmp .notin (.var 10) (.var 3))) (.var 10))) .anil))) (.ret (.bl false)) .skip) (.seq (.fors (.n 4) (.range (.acons (.int 4) .anil)) (.seq (.set 7 (.call 32 (.acons (.var 0) (.acons (.bin .shl (.int 1) (.var 1)) .anil)))) (.seq (.set 8 (.call 29 (.acons (.var 1) (.acons (.var 2) (.acons (.var 7) .anil))))) (.ifs (.or (.cmp .ne (.var 8) (.call 39 (.acons (.var 5) (.acons (.var 7) .anil)))) (.cmp .ne (.call 29 (.acons (.var 1) (.acons (.var 2) (.acons (.bin .xor (.var 8) (.call 33 (.acons (.var 0) (.acons (.bin .add (.tup (.acons (.int 0) .anil)) (.var 2)) .anil)))) .anil)))) (.var 8))) (.ret (.bl false)) .skip)))) (.seq (.ifs (.cmp .lt (.bif .len (.acons (.var 5) .anil)) (.int 9)) (.seq (.set 9 (.call 30 (.acons (.var 1) (.acons (.var 2) .anil)))) (.ifs (.or (.cmp .ne (.fz (.listof (.var 9))) (.call 40 (.acons (.var 5) .anil))) (.or (.cmp .ne (.var 8) (.bif .minl (.acons (.fz (.comp [11] (.n 11) (.over (.var 9)) .noe (.bin .xor (.var 7) (.var 11)))) .anil))) (.cmp .ne (.bif .len (.acons (.var 9) .anil)) (.bin .shl (.int 1) (.bif .len (.acons (.var 5) .anil)))))) (.ret (.bl false)) .skip)) .skip) (.ret (.call 43 (.acons (.var 0) (.acons (.var 1) .anil)))))))))))) [some (.ref p), none, none, none, none, none, none, none, none, none, none, none] h) = _
  rw [e]
  exact end_ret (by rw [d26.len]; exact Nat.le_refl _)
end
end Law
set_option Elab.async false
set_option linter.all false
set_option maxRecDepth 100000
set_option maxHeartbeats 1000000
namespace Law
open Mi Gf
section
variable {n : Nat} {h : Hh}
theorem Pure.pail {h' : Hh} {p : Nat} (hq : Pure h) (hp : Pail h' h.length) (e : ∃ o, h' = h ++ [o]) : Pure h' := by
  obtain ⟨o, rfl⟩ := e
  obtain ⟨g, s, c, e⟩ := hp
  rw [get_last] at e
  injection e with e
  subst e
  exact hq.app [g, s, c]
theorem spots (ns : List Int) (hn : ns.length ≤ 63) : ∃ k, k ≤ 63 ∧ (∀ (cf : CF) (x1 x2 x3 x4 : Option Vl), evW GG cf (.range (.acons (.bif .max2 (.acons (.int 1) (.acons (.bif .min2 (.acons (.int 3) (.acons (.bif .len (.acons (.var 0) .anil)) .anil))) .anil))) .anil)) [some (.scr (ns.map .int)), x1, x2, x3, x4] h = .ok (.its ((List.range k).map iv)) h) := by
  have e1 : bifV .len h [.scr (ns.map .int)] = some (iv ns.length) := scr_len ns
  have e2 : ∃ k, k ≤ 63 ∧ bifV .max2 h [iv 1, .int (if (ns.length : Int) < 3 then (ns.length : Int) else 3)] = some (iv k) := by
    refine ⟨if (if ns.length < 3 then ns.length else 3) > 1 then (if ns.length < 3 then ns.length else 3) else 1, ?_, ?_⟩
    · by_cases h1 : ns.length < 3
      · rw [if_pos h1]
        split <;> omega
      · rw [if_neg h1]
        decide
    · show some (Vl.int (if (if (ns.length : Int) < 3 then (ns.length : Int) else 3) > (1 : Int) then (if (ns.length : Int) < 3 then (ns.length : Int) else 3) else 1)) = some (Vl.int ((if (if ns.length < 3 then ns.length else 3) > 1 then (if ns.length < 3 then ns.length else 3) else 1 : Nat) : Int))
      congr 2
      by_cases h1 : ns.length < 3
      · rw [if_pos h1, if_pos (show (ns.length : Int) < 3 by omega)]
        split <;> split <;> omega
      · rw [if_neg h1, if_neg (show ¬ (ns.length : Int) < 3 by omega)]
        rfl
  obtain ⟨k, hk, e2⟩ := e2
  refine ⟨k, hk, fun cf x1 x2 x3 x4 => ?_⟩
  have e3 : bifV .min2 h [.int 3, iv ns.length] = some (.int (if (ns.length : Int) < 3 then (ns.length : Int) else 3)) := rfl
  have e : rangeL ((k : Int)).toNat 0 1 = (List.range k).map iv := by rw [Int.toNat_natCast, range_iv0]
  have hd : decide (((k : Nat) : Int).natAbs < 1000000000) = true := decide_eq_true (by omega)
  simp only [evS, evE, evA, evF, evW, part1, part0, evC, List.getElem?_cons_zero, List.getElem?_cons_succ, putE, List.set_cons_zero, List.set_cons_succ, tgV, putEs, wipeE, walkC, walkF, bnd_ok', lift_some, bndS_nx, bndS_rt, iv_xor, iv_and, iv_add, iv_axor, iv_aadd, iv_eq, iv_ne, iv_lt, iv_gt, iv_le, tru_bl, int0, int1, int2, e1, e3, e2]
  rw [show iv k = Vl.int (k : Nat) from rfl]
  simp only [hd, e, evS, evE, evA, evF, evW, part1, part0, evC, List.getElem?_cons_zero, List.getElem?_cons_succ, putE, List.set_cons_zero, List.set_cons_succ, tgV, putEs, wipeE, walkC, walkF, bnd_ok', lift_some, bndS_nx, bndS_rt, iv_xor, iv_and, iv_add, iv_axor, iv_aadd, iv_eq, iv_ne, iv_lt, iv_gt, iv_le, tru_bl, int0, int1, int2]
theorem five {p : Nat} (hp : Pail h p) (hq : Pure h) {x0 x1 x2 x4 : Option Vl} : ∃ y4 h', Drew h h' p ∧ evS GG (run GG FF (n + 8)) (.fors (.n 4) (.range (.acons (.int 5) .anil)) (.ifs (.not (.call 44 (.acons (.var 3) .anil))) (.ret (.bl false)) .skip)) [x0, x1, x2, some (.ref p), x4] h = .ok (.nx [x0, x1, x2, some (.ref p), y4]) h' := by
  obtain ⟨env', h', e, y4, rfl, d⟩ := for_pre (G := GG) (cf := run GG FF (n + 8)) (tg := .n 4) (b := (.ifs (.not (.call 44 (.acons (.var 3) .anil))) (.ret (.bl false)) .skip)) (g := iv) (xs := List.range 5) (env := [x0, x1, x2, some (.ref p), x4]) (h := h)
    (fun pre env h' => ∃ y4 : Option Vl, env = [x0, x1, x2, some (.ref p), y4] ∧ Drew h h' p) ⟨x4, rfl, Drew.refl hp⟩
    (fun pre x post ex env h' i => by
      obtain ⟨y4, rfl, d⟩ := i
      obtain ⟨h2, e2, d2⟩ := r44 (n := n) (h := h') d.1 (hq.drew d)
      refine ⟨_, _, h2, rfl, ?_, some (iv x), rfl, d.trans d2⟩
      simp only [evS, evE, evA, evF, evW, part1, part0, evC, List.getElem?_cons_zero, List.getElem?_cons_succ, putE, List.set_cons_zero, List.set_cons_succ, tgV, putEs, wipeE, walkC, walkF, bnd_ok', lift_some, bndS_nx, bndS_rt, iv_xor, iv_and, iv_add, iv_axor, iv_aadd, iv_eq, iv_ne, iv_lt, iv_gt, iv_le, tru_bl, int0, int1, int2, e2, Bool.not_true])
  refine ⟨y4, h', d, ?_⟩
  rw [ev_fors]
  have q : ∀ env, evW GG (run GG FF (n + 8)) (.range (.acons (.int 5) .anil)) env h = .ok (.its ((List.range 5).map iv)) h := fun _ => rfl
  rw [q, bnd_ok']
  exact e
theorem pails (ns : List Int) (hn : ns.length ≤ 63) (hq : Pure h) : ∃ x1 x3 x4 h', Pure h' ∧ evS GG (run GG FF (n + 8)) (.fors (.n 1) (.range (.acons (.bif .max2 (.acons (.int 1) (.acons (.bif .min2 (.acons (.int 3) (.acons (.bif .len (.acons (.var 0) .anil)) .anil))) .anil))) .anil)) (.seq (.set 3 (.call 31 (.acons (.var 0) (.acons (.var 1) .anil)))) (.fors (.n 4) (.range (.acons (.int 5) .anil)) (.ifs (.not (.call 44 (.acons (.var 3) .anil))) (.ret (.bl false)) .skip)))) [some (.scr (ns.map .int)), none, none, none, none] h = .ok (.nx [some (.scr (ns.map .int)), x1, none, x3, x4]) h' := by
  obtain ⟨k, hk, ek⟩ := spots (h := h) ns hn
  obtain ⟨env', h', e, x1, x3, x4, rfl, d⟩ := for_pre (G := GG) (cf := run GG FF (n + 8)) (tg := .n 1) (b := (.seq (.set 3 (.call 31 (.acons (.var 0) (.acons (.var 1) .anil)))) (.fors (.n 4) (.range (.acons (.int 5) .anil)) (.ifs (.not (.call 44 (.acons (.var 3) .anil))) (.ret (.bl false)) .skip)))) (g := iv) (xs := List.range k) (env := [some (.scr (ns.map .int)), none, none, none, none]) (h := h)
    (fun pre env h' => ∃ x1 x3 x4 : Option Vl, env = [some (.scr (ns.map .int)), x1, none, x3, x4] ∧ Pure h') ⟨none, none, none, rfl, hq⟩
    (fun pre x post ex env h' i => by
      obtain ⟨x1, x3, x4, rfl, q⟩ := i
      obtain ⟨h1, e1, p1, o1⟩ := r31 (n := n + 7) (h := h') ns x
      have q1 : Pure h1 := q.pail (p := 0) p1 o1
      obtain ⟨y4, h2, d2, e2⟩ := five (n := n) p1 q1 (x0 := some (.scr (ns.map .int))) (x1 := some (iv x)) (x2 := none) (x4 := x4)
      refine ⟨_, _, h2, rfl, ?_, some (iv x), some (.ref h'.length), y4, rfl, q1.drew d2⟩
      have s1 : evS GG (run GG FF (n + 8)) (.set 3 (.call 31 (.acons (.var 0) (.acons (.var 1) .anil)))) [some (.scr (ns.map .int)), some (iv x), none, x3, x4] h' = .ok (.nx [some (.scr (ns.map .int)), some (iv x), none, some (.ref h'.length), x4]) h1 := by
        simp only [evS, evE, evA, evF, evW, part1, part0, evC, List.getElem?_cons_zero, List.getElem?_cons_succ, putE, List.set_cons_zero, List.set_cons_succ, tgV, putEs, wipeE, walkC, walkF, bnd_ok', lift_some, bndS_nx, bndS_rt, iv_xor, iv_and, iv_add, iv_axor, iv_aadd, iv_eq, iv_ne, iv_lt, iv_gt, iv_le, tru_bl, int0, int1, int2, e1]
      show evS GG (run GG FF (n + 8)) (.seq (.set 3 (.call 31 (.acons (.var 0) (.acons (.var 1) .anil)))) (.fors (.n 4) (.range (.acons (.int 5) .anil)) (.ifs (.not (.call 44 (.acons (.var 3) .anil))) (.ret (.bl false)) .skip))) [some (.scr (ns.map .int)), some (iv x), none, x3, x4] h' = _
      rw [ev_seq, s1, bndS_nx, e2])
  refine ⟨x1, x3, x4, h', d, ?_⟩
  rw [ev_fors, ek, bnd_ok']
  exact e
theorem t356 : Told 4 [3, 5, 6] := ⟨by decide, by decide, by decide, by decide⟩
theorem t0 : Told 4 [0] := ⟨by decide, by decide, by decide, by decide⟩
theorem te (l : Nat) (h1 : 1 ≤ l) (h2 : l ≤ 24) : Told l [] := ⟨h1, h2, fun _ h => (nomatch h), by decide⟩
theorem m356 {cf : CF} {env : Env} : evE GG cf (.tup (.acons (.int 3) (.acons (.int 5) (.acons (.int 6) .anil)))) env h = .ok (.tup ([3, 5, 6].map iv)) h := rfl
theorem m0 {cf : CF} {env : Env} : evE GG cf (.tup (.acons (.int 0) .anil)) env h = .ok (.tup ([0].map iv)) h := rfl
theorem me {cf : CF} {env : Env} : evE GG cf (.tup .anil) env h = .ok (.tup (([] : List Nat).map iv)) h := rfl
theorem m013 {cf : CF} {env : Env} : evE GG cf (.tup (.acons (.int 0) (.acons (.int 1) (.acons (.int 3) .anil)))) env h = .ok (.tup ([0, 1, 3].map iv)) h := rfl
theorem b356 : Gf.basis [3, 5, 6] = [5, 3] := by decide +kernel
theorem b0 : Gf.basis [0] = [] := by decide +kernel
def told : List Vl := [.tup [iv 5, iv 3], .tup [iv 0, iv 3], iv 8, .tup [iv 0, iv 3, iv 5, iv 6], .tup []]
theorem end1 (hq : Pure h) {x0 x1 x3 x4 : Option Vl} : evS GG (run GG FF (n + 8)) (.set 2 (.fz (.disp (.acons (.call 27 (.acons (.int 4) (.acons (.tup (.acons (.int 3) (.acons (.int 5) (.acons (.int 6) .anil)))) .anil))) (.acons (.call 28 (.acons (.int 4) (.acons (.tup (.acons (.int 3) (.acons (.int 5) (.acons (.int 6) .anil)))) .anil))) (.acons (.call 29 (.acons (.int 4) (.acons (.tup (.acons (.int 3) (.acons (.int 5) (.acons (.int 6) .anil)))) (.acons (.int 13) .anil)))) (.acons (.call 30 (.acons (.int 4) (.acons (.tup (.acons (.int 3) (.acons (.int 5) (.acons (.int 6) .anil)))) .anil))) (.acons (.call 27 (.acons (.int 4) (.acons (.tup (.acons (.int 0) .anil)) .anil))) .anil)))))))) [x0, x1, none, x3, x4] h = .ok (.nx [x0, x1, some (.lst told), x3, x4]) h := by
  have i4 : Vl.int 4 = iv 4 := rfl
  have i13 : Vl.int 13 = iv 13 := rfl
  have q1 := r27 (n := n + 2) (h := h) t356
  have q2 := r28 (n := n + 2) (h := h) t356
  have q3 := r29 (n := n + 1) (h := h) t356 (w := 13) (by decide)
  have q4 := r30 (n := n + 2) (h := h) t356 (by decide +kernel) (hq.wf _)
  have q5 := r27 (n := n + 2) (h := h) t0
  rw [b356] at q1 q2 q3 q4
  rw [b0] at q5
  rw [show ((List.range 4).filter fun p => !(([5, 3] : List Nat).map Nat.log2).contains p) = [0, 3] by decide +kernel] at q2
  rw [show rem [5, 3] 13 = 8 by decide +kernel] at q3
  rw [show spanF ([5, 3] : List Nat).reverse [0] = [0, 3, 5, 6] by decide +kernel] at q4
  have h5 : decide (told.length ≤ line) = true := decide_eq_true (by show 5 ≤ line; decide)
  have ev : evF GG (run GG FF (n + 8)) (.disp (.acons (.call 27 (.acons (.int 4) (.acons (.tup (.acons (.int 3) (.acons (.int 5) (.acons (.int 6) .anil)))) .anil))) (.acons (.call 28 (.acons (.int 4) (.acons (.tup (.acons (.int 3) (.acons (.int 5) (.acons (.int 6) .anil)))) .anil))) (.acons (.call 29 (.acons (.int 4) (.acons (.tup (.acons (.int 3) (.acons (.int 5) (.acons (.int 6) .anil)))) (.acons (.int 13) .anil)))) (.acons (.call 30 (.acons (.int 4) (.acons (.tup (.acons (.int 3) (.acons (.int 5) (.acons (.int 6) .anil)))) .anil))) (.acons (.call 27 (.acons (.int 4) (.acons (.tup (.acons (.int 0) .anil)) .anil))) .anil)))))) [x0, x1, none, x3, x4] h = .ok told h := by
    simp only [↓m356, ↓m0, evS, evE, evA, evF, evW, part1, part0, evC, List.getElem?_cons_zero, List.getElem?_cons_succ, putE, List.set_cons_zero, List.set_cons_succ, tgV, putEs, wipeE, walkC, walkF, bnd_ok', lift_some, bndS_nx, bndS_rt, iv_xor, iv_and, iv_add, iv_axor, iv_aadd, iv_eq, iv_ne, iv_lt, iv_gt, iv_le, tru_bl, int0, int1, int2, i4, i13, q1, q2, q3, q4, q5]
    unfold told at h5
    rw [show ([Vl.tup ([5, 3].map iv), Vl.tup ([0, 3].map iv), iv 8, Vl.tup ([0, 3, 5, 6].map iv), Vl.tup (([] : List Nat).map iv)]) = told from rfl]
    unfold told
    rw [h5]
  show bnd (bnd (evF GG (run GG FF (n + 8)) (.disp (.acons (.call 27 (.acons (.int 4) (.acons (.tup (.acons (.int 3) (.acons (.int 5) (.acons (.int 6) .anil)))) .anil))) (.acons (.call 28 (.acons (.int 4) (.acons (.tup (.acons (.int 3) (.acons (.int 5) (.acons (.int 6) .anil)))) .anil))) (.acons (.call 29 (.acons (.int 4) (.acons (.tup (.acons (.int 3) (.acons (.int 5) (.acons (.int 6) .anil)))) (.acons (.int 13) .anil)))) (.acons (.call 30 (.acons (.int 4) (.acons (.tup (.acons (.int 3) (.acons (.int 5) (.acons (.int 6) .anil)))) .anil))) (.acons (.call 27 (.acons (.int 4) (.acons (.tup (.acons (.int 0) .anil)) .anil))) .anil)))))) _ h) _) _ = _
  rw [ev]
  rfl
theorem end2 (hq : Pure h) {x0 x1 x3 x4 : Option Vl} : evS GG (run GG FF (n + 8)) (.ifs (.or (.cmp .ne (.var 2) (.fz (.disp (.acons (.tup (.acons (.int 5) (.acons (.int 3) .anil))) (.acons (.tup (.acons (.int 0) (.acons (.int 3) .anil))) (.acons (.int 8) (.acons (.tup (.acons (.int 0) (.acons (.int 3) (.acons (.int 5) (.acons (.int 6) .anil))))) (.acons (.tup .anil) .anil)))))))) (.or (.cmp .ne (.call 30 (.acons (.int 24) (.acons (.tup .anil) .anil))) (.tup (.acons (.int 0) .anil))) (.cmp .ne (.call 28 (.acons (.int 2) (.acons (.tup .anil) .anil))) (.tup (.acons (.int 0) (.acons (.int 1) .anil)))))) (.ret (.bl false)) .skip) [x0, x1, some (.lst told), x3, x4] h = .ok (.nx [x0, x1, some (.lst told), x3, x4]) h := by
  refine or_nx ?_
  have c1 : evE GG (run GG FF (n + 8)) (.cmp .ne (.var 2) (.fz (.disp (.acons (.tup (.acons (.int 5) (.acons (.int 3) .anil))) (.acons (.tup (.acons (.int 0) (.acons (.int 3) .anil))) (.acons (.int 8) (.acons (.tup (.acons (.int 0) (.acons (.int 3) (.acons (.int 5) (.acons (.int 6) .anil))))) (.acons (.tup .anil) .anil)))))))) [x0, x1, some (.lst told), x3, x4] h = .ok (.bl false) h := rfl
  have i24 : Vl.int 24 = iv 24 := rfl
  have q4 := r30 (n := n + 2) (h := h) (te 24 (by decide) (by decide)) (by decide +kernel) (hq.wf _)
  have q2 := r28 (n := n + 2) (h := h) (te 2 (by decide) (by decide))
  rw [show Gf.basis [] = [] from rfl] at q4 q2
  rw [show ((List.range 2).filter fun p => !(([] : List Nat).map Nat.log2).contains p) = [0, 1] by decide +kernel] at q2
  rw [show spanF ([] : List Nat).reverse [0] = [0] by decide +kernel] at q4
  have c2 : evE GG (run GG FF (n + 8)) (.cmp .ne (.call 30 (.acons (.int 24) (.acons (.tup .anil) .anil))) (.tup (.acons (.int 0) .anil))) [x0, x1, some (.lst told), x3, x4] h = .ok (.bl false) h := by
    simp only [↓me, ↓m0, evS, evE, evA, evF, evW, part1, part0, evC, List.getElem?_cons_zero, List.getElem?_cons_succ, putE, List.set_cons_zero, List.set_cons_succ, tgV, putEs, wipeE, walkC, walkF, bnd_ok', lift_some, bndS_nx, bndS_rt, iv_xor, iv_and, iv_add, iv_axor, iv_aadd, iv_eq, iv_ne, iv_lt, iv_gt, iv_le, tru_bl, int0, int1, int2, i24, q4]
    rfl
  have c3 : evE GG (run GG FF (n + 8)) (.cmp .ne (.call 28 (.acons (.int 2) (.acons (.tup .anil) .anil))) (.tup (.acons (.int 0) (.acons (.int 1) .anil)))) [x0, x1, some (.lst told), x3, x4] h = .ok (.bl false) h := by
    have m01 : ∀ env h, evE GG (run GG FF (n + 8)) (.tup (.acons (.int 0) (.acons (.int 1) .anil))) env h = .ok (.tup ([0, 1].map iv)) h := fun _ _ => rfl
    simp only [↓me, ↓m01, evS, evE, evA, evF, evW, part1, part0, evC, List.getElem?_cons_zero, List.getElem?_cons_succ, putE, List.set_cons_zero, List.set_cons_succ, tgV, putEs, wipeE, walkC, walkF, bnd_ok', lift_some, bndS_nx, bndS_rt, iv_xor, iv_and, iv_add, iv_axor, iv_aadd, iv_eq, iv_ne, iv_lt, iv_gt, iv_le, tru_bl, int0, int1, int2, q2]
    rfl
  show bnd (evE GG (run GG FF (n + 8)) (.cmp .ne (.var 2) (.fz (.disp (.acons (.tup (.acons (.int 5) (.acons (.int 3) .anil))) (.acons (.tup (.acons (.int 0) (.acons (.int 3) .anil))) (.acons (.int 8) (.acons (.tup (.acons (.int 0) (.acons (.int 3) (.acons (.int 5) (.acons (.int 6) .anil))))) (.acons (.tup .anil) .anil)))))))) _ h) _ = _
  rw [c1, bnd_ok']
  show bnd (evE GG (run GG FF (n + 8)) (.cmp .ne (.call 30 (.acons (.int 24) (.acons (.tup .anil) .anil))) (.tup (.acons (.int 0) .anil))) _ h) _ = _
  rw [c2, bnd_ok']
  exact c3
theorem end3 {x0 x1 x3 x4 : Option Vl} : evS GG (run GG FF (n + 8)) (.ret (.cmp .eq (.fz (.disp (.acons (.call 23 (.acons (.int 11) .anil)) (.acons (.call 24 (.acons (.int 11) (.acons (.int 7) .anil))) (.acons (.call 24 (.acons (.int 11) (.acons (.int 11) .anil))) (.acons (.call 25 (.acons (.int 11) .anil)) (.acons (.call 26 (.acons (.tup (.acons (.int 0) (.acons (.int 1) (.acons (.int 3) .anil)))) .anil)) (.acons (.call 26 (.acons (.tup .anil) .anil)) .anil)))))))) (.fz (.disp (.acons (.int 3) (.acons (.int 0) (.acons (.int 1) (.acons (.tup (.acons (.int 0) (.acons (.int 1) (.acons (.int 3) .anil)))) (.acons (.int 11) (.acons (.int 0) .anil)))))))))) [x0, x1, some (.lst told), x3, x4] h = .ok (.rt (.bl true)) h := by
  have i11 : Vl.int 11 = iv 11 := rfl
  have i7 : Vl.int 7 = iv 7 := rfl
  have q1 := r23 (n := n + 4) (h := h) 11 (by decide)
  have q2 := r24 (n := n + 4) (h := h) 11 7 (by decide) (by decide)
  have q3 := r24 (n := n + 4) (h := h) 11 11 (by decide) (by decide)
  have q4 := r25 (n := n + 4) (h := h) 11 (by decide)
  have q5 := r26 (n := n + 4) (h := h) [0, 1, 3] (by decide) (by decide) (by decide)
  have q6 := r26 (n := n + 4) (h := h) [] (by decide) (by decide) (by decide)
  rw [show wt 11 = 3 by decide +kernel] at q1
  rw [show wt (11 &&& 7) % 2 = 0 by decide +kernel] at q2
  rw [show wt (11 &&& 11) % 2 = 1 by decide +kernel] at q3
  rw [show plcs 11 = [0, 1, 3] by decide +kernel] at q4
  rw [show (([0, 1, 3] : List Nat).map (2 ^ ·)).sum = 11 by decide +kernel] at q5
  rw [show (([] : List Nat).map (2 ^ ·)).sum = 0 by decide +kernel] at q6
  have ev : evE GG (run GG FF (n + 8)) (.fz (.disp (.acons (.call 23 (.acons (.int 11) .anil)) (.acons (.call 24 (.acons (.int 11) (.acons (.int 7) .anil))) (.acons (.call 24 (.acons (.int 11) (.acons (.int 11) .anil))) (.acons (.call 25 (.acons (.int 11) .anil)) (.acons (.call 26 (.acons (.tup (.acons (.int 0) (.acons (.int 1) (.acons (.int 3) .anil)))) .anil)) (.acons (.call 26 (.acons (.tup .anil) .anil)) .anil)))))))) [x0, x1, some (.lst told), x3, x4] h = .ok (.lst [iv 3, iv 0, iv 1, .tup ([0, 1, 3].map iv), iv 11, iv 0]) h := by
    have h6 : decide ([iv 3, iv 0, iv 1, .tup ([0, 1, 3].map iv), iv 11, iv 0].length ≤ line) = true := decide_eq_true (by show 6 ≤ line; decide)
    simp only [↓m013, ↓me, evS, evE, evA, evF, evW, part1, part0, evC, List.getElem?_cons_zero, List.getElem?_cons_succ, putE, List.set_cons_zero, List.set_cons_succ, tgV, putEs, wipeE, walkC, walkF, bnd_ok', lift_some, bndS_nx, bndS_rt, iv_xor, iv_and, iv_add, iv_axor, iv_aadd, iv_eq, iv_ne, iv_lt, iv_gt, iv_le, tru_bl, int0, int1, int2, i11, i7, q1, q2, q3, q4, q5, q6, h6]
  show bnd (bnd (evE GG (run GG FF (n + 8)) (.fz (.disp (.acons (.call 23 (.acons (.int 11) .anil)) (.acons (.call 24 (.acons (.int 11) (.acons (.int 7) .anil))) (.acons (.call 24 (.acons (.int 11) (.acons (.int 11) .anil))) (.acons (.call 25 (.acons (.int 11) .anil)) (.acons (.call 26 (.acons (.tup (.acons (.int 0) (.acons (.int 1) (.acons (.int 3) .anil)))) .anil)) (.acons (.call 26 (.acons (.tup .anil) .anil)) .anil)))))))) _ h) _) _ = _
  rw [ev]
  rfl
end
theorem hlaw : ∀ ns : List Int, ns.length ≤ 63 → ∃ h', run GG FF (20 + 1) 45 [.scr (ns.map .int)] [] = .ok (.bl true) h' := by
  intro ns hn
  obtain ⟨x1, x3, x4, h', q, e⟩ := pails (n := 12) (h := []) ns hn (fun _ h => (nomatch h))
  have e2 : evS GG (run GG FF 20) (.seq (.fors (.n 1) (.range (.acons (.bif .max2 (.acons (.int 1) (.acons (.bif .min2 (.acons (.int 3) (.acons (.bif .len (.acons (.var 0) .anil)) .anil))) .anil))) .anil)) (.seq (.set 3 (.call 31 (.acons (.var 0) (.acons (.var 1) .anil)))) (.fors (.n 4) (.range (.acons (.int 5) .anil)) (.ifs (.not (.call 44 (.acons (.var 3) .anil))) (.ret (.bl false)) .skip)))) (.seq (.set 2 (.fz (.disp (.acons (.call 27 (.acons (.int 4) (.acons (.tup (.acons (.int 3) (.acons (.int 5) (.acons (.int 6) .anil)))) .anil))) (.acons (.call 28 (.acons (.int 4) (.acons (.tup (.acons (.int 3) (.acons (.int 5) (.acons (.int 6) .anil)))) .anil))) (.acons (.call 29 (.acons (.int 4) (.acons (.tup (.acons (.int 3) (.acons (.int 5) (.acons (.int 6) .anil)))) (.acons (.int 13) .anil)))) (.acons (.call 30 (.acons (.int 4) (.acons (.tup (.acons (.int 3) (.acons (.int 5) (.acons (.int 6) .anil)))) .anil))) (.acons (.call 27 (.acons (.int 4) (.acons (.tup (.acons (.int 0) .anil)) .anil))) .anil)))))))) (.seq (.ifs (.or (.cmp .ne (.var 2) (.fz (.disp (.acons (.tup (.acons (.int 5) (.acons (.int 3) .anil))) (.acons (.tup (.acons (.int 0) (.acons (.int 3) .anil))) (.acons (.int 8) (.acons (.tup (.acons (.int 0) (.acons (.int 3) (.acons (.int 5) (.acons (.int 6) .anil))))) (.acons (.tup .anil) .anil)))))))) (.or (.cmp .ne (.call 30 (.acons (.int 24) (.acons (.tup .anil) .anil))) (.tup (.acons (.int 0) .anil))) (.cmp .ne (.call 28 (.acons (.int 2) (.acons (.tup .anil) .anil))) (.tup (.acons (.int 0) (.acons (.int 1) .anil)))))) (.ret (.bl false)) .skip) (.ret (.cmp .eq (.fz (.disp (.acons (.call 23 (.acons (.int 11) .anil)) (.acons (.call 24 (.acons (.int 11) (.acons (.int 7) .anil))) (.acons (.call 24 (.acons (.int 11) (.acons (.int 11) .anil))) (.acons (.call 25 (.acons (.int 11) .anil)) (.acons (.call 26 (.acons (.tup (.acons (.int 0) (.acons (.int 1) (.acons (.int 3) .anil)))) .anil)) (.acons (.call 26 (.acons (.tup .anil) .anil)) .anil)))))))) (.fz (.disp (.acons (.int 3) (.acons (.int 0) (.acons (.int 1) (.acons (.tup (.acons (.int 0) (.acons (.int 1) (.acons (.int 3) .anil)))) (.acons (.int 11) (.acons (.int 0) .anil))))))))))))) [some (.scr (ns.map .int)), none, none, none, none] [] = .ok (.rt (.bl true)) h' := by
    rw [ev_seq, e, bndS_nx, ev_seq, end1 (n := 12) q, bndS_nx, ev_seq, end2 (n := 12) q, bndS_nx, end3 (n := 12)]
  rw [run_eq (d := f45) rfl rfl]
  show ∃ h', endF true 0 (evS GG (run GG FF 20) (.seq (.fors (.n 1) (.range (.acons (.bif .max2 (.acons (.int 1) (.acons (.bif .min2 (.acons (.int 3) (.acons (.bif .len (.acons (.var 0) .anil)) .anil))) .anil))) .anil)) (.seq (.set 3 (.call 31 (.acons (.var 0) (.acons (.var 1) .anil)))) (.fors (.n 4) (.range (.acons (.int 5) .anil)) (.ifs (.not (.call 44 (.acons (.var 3) .anil))) (.ret (.bl false)) .skip)))) (.seq (.set 2 (.fz (.disp (.acons (.call 27 (.acons (.int 4) (.acons (.tup (.acons (.int 3) (.acons (.int 5) (.acons (.int 6) .anil)))) .anil))) (.acons (.call 28 (.acons (.int 4) (.acons (.tup (.acons (.int 3) (.acons (.int 5) (.acons (.int 6) .anil)))) .anil))) (.acons (.call 29 (.acons (.int 4) (.acons (.tup (.acons (.int 3) (.acons (.int 5) (.acons (.int 6) .anil)))) (.acons (.int 13) .anil)))) (.acons (.call 30 (.acons (.int 4) (.acons (.tup (.acons (.int 3) (.acons (.int 5) (.acons (.int 6) .anil)))) .anil))) (.acons (.call 27 (.acons (.int 4) (.acons (.tup (.acons (.int 0) .anil)) .anil))) .anil)))))))) (.seq (.ifs (.or (.cmp .ne (.var 2) (.fz (.disp (.acons (.tup (.acons (.int 5) (.acons (.int 3) .anil))) (.acons (.tup (.acons (.int 0) (.acons (.int 3) .anil))) (.acons (.int 8) (.acons (.tup (.acons (.int 0) (.acons (.int 3) (.acons (.int 5) (.acons (.int 6) .anil))))) (.acons (.tup .anil) .anil)))))))) (.or (.cmp .ne (.call 30 (.acons (.int 24) (.acons (.tup .anil) .anil))) (.tup (.acons (.int 0) .anil))) (.cmp .ne (.call 28 (.acons (.int 2) (.acons (.tup .anil) .anil))) (.tup (.acons (.int 0) (.acons (.int 1) .anil)))))) (.ret (.bl false)) .skip) (.ret (.cmp .eq (.fz (.disp (.acons (.call 23 (.acons (.int 11) .anil)) (.acons (.call 24 (.acons (.int 11) (.acons (.int 7) .anil))) (.acons (.call 24 (.acons (.int 11) (.acons (.int 11) .anil))) (.acons (.call 25 (.acons (.int 11) .anil)) (.acons (.call 26 (.acons (.tup (.acons (.int 0) (.acons (.int 1) (.acons (.int 3) .anil)))) .anil)) (.acons (.call 26 (.acons (.tup .anil) .anil)) .anil)))))))) (.fz (.disp (.acons (.int 3) (.acons (.int 0) (.acons (.int 1) (.acons (.tup (.acons (.int 0) (.acons (.int 1) (.acons (.int 3) .anil)))) (.acons (.int 11) (.acons (.int 0) .anil))))))))))))) [some (.scr (ns.map .int)), none, none, none, none] []) = _
  rw [e2]
  cases h' with
  | nil => exact ⟨[], rfl⟩
  | cons o r => exact ⟨[], rfl⟩
end Law
set_option Elab.async false
set_option linter.all false
set_option maxRecDepth 100000
set_option maxHeartbeats 0
namespace Law
open PySem PySem.Spec PyProof.Rows L2 Mi PySem.W
end Law
open PySem PySem.Spec PyProof.Rows L2 Mi Law PySem.W
theorem PySem.Challenge.cw_ownchecks_k01_whole_words_and_their_one_holds : PySem.Challenge.rw_ownchecks_k01_whole_words_and_their_one.Holds := by
  w_on; o_law; k_head; (case hw => w_witness2)
  k_fill
  refine L2.walk_of (l := PySem.Challenge.rw_ownchecks_k01_whole_words_and_their_one) (n := 63) (k := 2 * 20 + 1) (x := "script") (CX := fun w => L2.CX PySem.Challenge.rw_ownchecks_k01_whole_words_and_their_one.prog w) (sp := fun w => spLaw _) rfl (by decide) rfl ⟨rfl, by decide, by decide⟩ (fun w h Y => PySem.W.kIn_of Y) ?F (fun _ _ a ns hl ho hS => ⟨a, ns, rfl, hl, ho, hS, fun _ => rfl⟩) (fun _ _ _ _ _ h => by obtain ⟨_, _, _, _, _, _, _, _, _, _, _, _, z⟩ := h; exact z.elim)
  case F =>
    intro w mg fa h KX G hmg
    refine law_end (tab := tab) (cs := cs) (n := 20) (lf := 45) KX G hmg (fun f t e => AllS.get f t sall e) (show tab[45]? = _ from rfl) ⟨_, s45⟩ ?mA ?mC ?mN hlaw
    case mA =>
      show AllD _ [(Str.ofString "is_whole", topS 11), (Str.ofString "is_from", topS 12), (Str.ofString "is_word_in", topS 13), (Str.ofString "are_words_in", topS 14), (Str.ofString "are_ascending", topS 15), (Str.ofString "weight_in", topS 16), (Str.ofString "product_in", topS 17), (Str.ofString "head_of", topS 18), (Str.ofString "has_bit", topS 19), (Str.ofString "places_in", topS 20), (Str.ofString "word_in", topS 21), (Str.ofString "remainder_in", topS 22), (Str.ofString "with_word", topS 23), (Str.ofString "basis_in", topS 24), (Str.ofString "heads_in", topS 25), (Str.ofString "free_in", topS 26), (Str.ofString "span_in", topS 27), (Str.ofString "require_length", topS 28), (Str.ofString "require_word", topS 29), (Str.ofString "require_words", topS 30), (Str.ofString "require_spanned", topS 31), (Str.ofString "require_told", topS 32), (Str.ofString "is_word", topS 33), (Str.ofString "weight", topS 34), (Str.ofString "product", topS 35), (Str.ofString "places_of", topS 36), (Str.ofString "word_of", topS 37), (Str.ofString "basis_of", topS 38), (Str.ofString "free_places", topS 39), (Str.ofString "remainder_of", topS 40), (Str.ofString "span_of", topS 41), (Str.ofString "_law_pail", topS 43), (Str.ofString "_law_scooped", topS 44), (Str.ofString "_law_any_of", topS 45), (Str.ofString "_law_weight", topS 46), (Str.ofString "_law_product", topS 47), (Str.ofString "_law_head", topS 48), (Str.ofString "_law_has", topS 49), (Str.ofString "_law_basis", topS 50), (Str.ofString "_law_rest", topS 51), (Str.ofString "_law_span", topS 52), (Str.ofString "_law_words_drawn", topS 53), (Str.ofString "_law_mixed", topS 54), (Str.ofString "_law_words_right", topS 55), (Str.ofString "_law_right", topS 56), (Str.ofString "law", topS 57)]
      repeat (refine' And.intro (Exists.intro _ (DK.mk ?ns (Exists.intro _ (fun_mk ?l ?c ?k)))) ?_; (case ns => k_is); (case l => k_is); (case c => k_is); (case k => k_is))
      exact True.intro
    case mC =>
      show AllV _ cs
      unfold cs
      refine' And.intro (CV.int ?ns) ?_; (case ns => k_is)
      refine' And.intro (CV.int ?ns) ?_; (case ns => k_is)
      refine' And.intro (CV.int ?ns) ?_; (case ns => k_is)
      refine' And.intro (CV.int ?ns) ?_; (case ns => k_is)
      exact True.intro
    case mN =>
      show AllN _ bNames
      unfold bNames
      repeat (refine' And.intro ?ns ?_; (case ns => k_is))
      exact True.intro
