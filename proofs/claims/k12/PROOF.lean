import PyProof.Rows.All
import Wide.All
import OpenK.AllK
import Wide.FinOn
import HandS.ForMost
import HandS.Exc
import HandS.ExcOwn
import HandS.WordsExc
import HandS.SlotsVar
import HandS.Lambda
import HandS.Wide
import HandS.WideBits
import HandS.TupAny
import HandS.TupMul
import HandS.SortInts
import HandS.SortKw
import HandS.SlotsOwn
import HandS.IsInst
import KE.KTupSum
import HandS.Star
import HandS.CallLocal
import KE.GoesEnum
import HandS.Walk
import KE.GoesZip
import KE.GoesMore
import HandS.Zip
import HandS.Style
import HandS.Conv
import HandS.More
import PyProof.Rows.PlainNe
import KE.KExcLine
import HandS.ExcInit
import HandS.TryMany
import HandS.ExcField
import HandS.EndTab
import PySem.Challenge.RW_ownchecks_k12_errors_of_counts
set_option Elab.async false
set_option linter.all false
set_option maxRecDepth 100000
set_option maxHeartbeats 4000000
namespace Mi
inductive Vl where
  | non
  | bl (b : Bool)
  | int (i : Int)
  | str (s : List Nat)
  | tup (xs : List Vl)
  | lst (xs : List Vl)
  | scr (xs : List Vl)
  | dct (xs : List Vl)
  | ins (c : Nat) (xs : List Vl)
  | ref (n : Nat)
  | fn (g : Nat)
  | clo (k : Nat)
  deriving Inhabited
inductive Ob where
  | lst (xs : List Vl)
  | dct (kvs : List (Vl × Vl))
  | ins (c : Nat) (xs : List (Option Vl))
  deriving Inhabited
inductive R (α : Type) where
  | ok (a : α) (h : List Ob)
  | exc (c : Nat) (p : Option Vl) (h : List Ob)
  | bad
abbrev Env := List (Option Vl)
abbrev Hh := List Ob
def bnd {α β : Type} (r : R α) (f : α → Hh → R β) : R β :=
  match r with
  | .ok a h => f a h
  | .exc c p h => .exc c p h
  | .bad => .bad
def lift {α : Type} (o : Option α) (h : Hh) : R α :=
  match o with
  | some a => .ok a h
  | none => .bad
inductive BO where | add | sub | mul | fdiv | mod | pow | shl | shr | and | or | xor
inductive CO where | eq | ne | lt | le | gt | ge | is | isnot | isin | notin
inductive Tg where | n (i : Nat) | t (is : List Nat)
inductive Bif where
  | len | abs | max2 | min2 | maxl | minl | int | tuple | sum | all | any | isint | isbool | istuple | isstr | islist | isown (c : Nat)
inductive Mth where | append | extend | pop0 | pop1 | bitlen
inductive HE where
  | s (x : List Nat)
  | r (x : List Nat)
  | p
  | t1 (a : HE)
  | t2 (a b : HE)
structure Mt where
  hs : List (Nat × HE)
  fine : HE
inductive Ex where
  | var (i : Nat)
  | int (i : Int)
  | bl (b : Bool)
  | non
  | str (s : List Nat)
  | gl (g : Nat)
  | bin (o : BO) (a b : Ex)
  | neg (a : Ex)
  | cmp (o : CO) (a b : Ex)
  | chain (o p : CO) (a b c : Ex)
  | and (a b : Ex)
  | or (a b : Ex)
  | not (a : Ex)
  | ite (c a b : Ex)
  | tup (as : Ex)
  | fz (f : Ex)
  | th (f : Ex)
  | sub (a i : Ex)
  | slc (a lo hi : Ex)
  | call (f : Nat) (as : Ex)
  | callv (i : Nat) (as : Ex)
  | mk (c : Nat) (as : Ex)
  | bif (b : Bif) (as : Ex)
  | mth (m : Mth) (o as : Ex)
  | attr (o : Ex) (f : Nat)
  | isown (c : Nat) (e : Ex)
  | ocmp (neg : Bool) (a b : Ex)
  | rev (a : Ex)
  | dnew
  | dz
  | trg (as : Ex)
  | rpr (e : Ex)
  | lamc (f : Nat) (b : Ex)
  | callg (f : Nat) (as : Ex)
  -- arguments
  | anil
  | acons (e r : Ex)
  | astar (e r : Ex)
  -- fresh lists
  | disp (as : Ex)
  | comp (own : List Nat) (tg : Tg) (it c e : Ex)
  | listof (e : Ex)
  | srt (rev : Bool) (e : Ex)
  | cat (a b : Ex)
  | rep (a b : Ex)
  | slf (a lo hi : Ex)
  | lrg (as : Ex)
  -- what is walked
  | over (e : Ex)
  | range (as : Ex)
  | enum (e : Ex)
  | zip (a b : Ex)
  | noe
  | sm (e : Ex)
inductive St where
  | skip
  | never
  | seq (a b : St)
  | ex (e : Ex)
  | set (i : Nat) (e : Ex)
  | par (is : List Nat) (as : Ex)
  | unp (is : List Nat) (e : Ex)
  | aug (i : Nat) (o : BO) (e : Ex)
  | sets (o i e : Ex)
  | augs (o i : Ex) (b : BO) (e : Ex)
  | setf (o : Ex) (f : Nat) (e : Ex)
  | parf (o : Nat) (fs : List Nat) (as : Ex)
  | ifs (c : Ex) (a b : St)
  | fors (tg : Tg) (it : Ex) (b : St)
  | whiles (c : Ex) (b : St)
  | ret (e : Ex)
  | brk
  | cnt
  | raise (c : Nat) (as : Ex)
def seqOf (h : Hh) : Vl → Option (List Vl)
  | .tup xs => some xs
  | .lst xs => some xs
  | .scr xs => some xs
  | .ref n => match h[n]? with
    | some (.lst xs) => some xs
    | _ => none
  | _ => none
def lstOf (h : Hh) : Vl → Option (List Vl)
  | .lst xs => some xs
  | .ref n => match h[n]? with
    | some (.lst xs) => some xs
    | _ => none
  | _ => none
def intOf : Vl → Option Int
  | .int i => some i
  | _ => none
def intsOf : List Vl → Option (List Int)
  | [] => some []
  | .int i :: r => match intsOf r with
    | some l => some (i :: l)
    | none => none
  | _ :: _ => none
def blsOf : List Vl → Option (List Bool)
  | [] => some []
  | .bl i :: r => match blsOf r with
    | some l => some (i :: l)
    | none => none
  | .int i :: r => match blsOf r with
    | some l => some ((i != 0) :: l)
    | none => none
  | _ :: _ => none
def line : Nat := 16777216
def truth (h : Hh) : Vl → Option Bool
  | .non => some false
  | .bl b => some b
  | .int i => some (i != 0)
  | .str s => if s.length ≤ line then some (!s.isEmpty) else none
  | .tup xs => some (!xs.isEmpty)
  | .lst xs => some (!xs.isEmpty)
  | .scr xs => some (!xs.isEmpty)
  | .ref n => match h[n]? with
    | some (.lst xs) => some (!xs.isEmpty)
    | some (.dct xs) => some (!xs.isEmpty)
    | _ => none
  | _ => none
mutual
def eqV : Vl → Vl → Bool
  | .non, .non => true
  | .bl a, .bl b => a == b
  | .bl a, .int j => (if a then 1 else 0) == j
  | .int i, .bl b => i == (if b then 1 else 0)
  | .int i, .int j => i == j
  | .str x, .str y => x == y
  | .lst xs, .lst ys => eqL xs ys
  | .tup xs, .tup ys => eqL xs ys
  | _, _ => false
def eqL : List Vl → List Vl → Bool
  | [], [] => true
  | x :: xs, y :: ys => match eqV x y with
    | true => eqL xs ys
    | false => false
  | [], _ :: _ => false
  | _ :: _, [] => false
end
mutual
def pl : Vl → Nat → Bool
  | .non, _ => true
  | .bl _, _ => true
  | .int _, _ => true
  | .str s, _ => s.all (· < 0x110000)
  | .lst xs, n + 1 => plL xs n
  | .tup xs, n + 1 => plL xs n
  | _, _ => false
def plL : List Vl → Nat → Bool
  | [], _ => true
  | x :: xs, n => match pl x n with
    | true => plL xs n
    | false => false
end
def deref (h : Hh) : Vl → Vl
  | .ref n => match h[n]? with
    | some (.lst xs) => .lst xs
    | _ => .ref n
  | v => v
def pyEq (h : Hh) (x y : Vl) : Option Bool :=
  let a := deref h x
  let b := deref h y
  match pl a 20 with
  | true => match pl b 20 with
    | true => some (eqV a b)
    | false => none
  | false => none
def flat : Vl → Bool
  | .non => true
  | .bl _ => true
  | .int _ => true
  | .str _ => true
  | _ => false
def bitsOk (i : Int) (n : Nat) : Bool := decide (i.natAbs.log2 < n)
def natOf : Int → Option Nat
  | .ofNat n => some n
  | .negSucc _ => none
def binI (o : BO) (i j : Int) : Option Int :=
  match o with
  | .add => some (i + j)
  | .sub => some (i - j)
  | .mul => if i.natAbs.log2 + j.natAbs.log2 < 1000000 ∨ (-18446744073709551616 < i ∧ i < 18446744073709551616) ∨ (-18446744073709551616 < j ∧ j < 18446744073709551616) then some (i * j) else none
  | .fdiv => if 0 < j then (if j.natAbs.log2 < 9000 then some (i / j) else none) else none
  | .mod => if 0 < j then some (i % j) else none
  | .pow => match natOf j with
    | some m => if (i.natAbs.log2 + 1) * m < 100000 then some (i ^ m) else none
    | none => none
  | .shl => match natOf j with
    | some m => if i.natAbs.log2 + m < 100000 then some (i * 2 ^ m) else none
    | none => none
  | .shr => match natOf j with
    | some m => some (i / 2 ^ m)
    | none => none
  | .and => match natOf i with
    | some a => match natOf j with
      | some b => some (.ofNat (a &&& b))
      | none => none
    | none => none
  | .or => match natOf i with
    | some a => match natOf j with
      | some b => some (.ofNat (a ||| b))
      | none => none
    | none => none
  | .xor => match natOf i with
    | some a => match natOf j with
      | some b => some (.ofNat (a ^^^ b))
      | none => none
    | none => none
def repL (k : Nat) (xs : List Vl) : List Vl := (List.replicate k xs).flatten
def binV (o : BO) (h : Hh) (x y : Vl) : Option Vl :=
  match x, y with
  | .int i, .int j => match binI o i j with
    | some k => some (.int k)
    | none => none
  | .str a, .str b => match o with
    | .add => if a.length + b.length ≤ line then some (.str (a ++ b)) else none
    | _ => none
  | .tup a, .tup b => match o with
    | .add => if a.length + b.length ≤ line then some (.tup (a ++ b)) else none
    | _ => none
  | .tup a, .int k => match o with
    | .mul => if 2 ≤ k then (if k ≤ 1000 then (if a.length ≤ 1000 then (if a.isEmpty then none else some (.tup (repL k.toNat a))) else none) else none) else none
    | _ => none
  | _, _ => none
def augV (o : BO) (h : Hh) (x y : Vl) : Option Vl :=
  match x, y with
  | .int i, .int j => match binI o i j with
    | some k => some (.int k)
    | none => none
  | .str a, .str b => match o with
    | .add => if a.length + b.length ≤ line then some (.str (a ++ b)) else none
    | _ => none
  | _, _ => none
def catV (h : Hh) (x y : Vl) : Option (List Vl) :=
  match lstOf h x with
  | some a => match lstOf h y with
    | some b => if a.length + b.length ≤ line then some (a ++ b) else none
    | none => none
  | none => none
def repV (h : Hh) (x y : Vl) : Option (List Vl) :=
  match lstOf h x with
  | some a => match y with
    | .int k => if a.length * k.toNat ≤ line then (if k < 1000000 then (if -1000000 < k then some (repL k.toNat a) else none) else none) else none
    | _ => none
  | none => none
def inB (x : Vl) : List Vl → Bool
  | [] => false
  | y :: r => match eqV y x with
    | true => true
    | false => inB x r
def keyOk : Vl → Bool
  | .int _ => true
  | .str _ => true
  | _ => false
def keyEq : Vl → Vl → Bool
  | .int i, .int j => i == j
  | .str x, .str y => x == y
  | _, _ => false
def dget (k : Vl) : List (Vl × Vl) → Option Vl
  | [] => none
  | (a, v) :: r => match keyEq a k with
    | true => some v
    | false => dget k r
def drep (k v : Vl) : List (Vl × Vl) → List (Vl × Vl)
  | [] => []
  | (a, x) :: r => match keyEq a k with
    | true => (a, v) :: drep k v r
    | false => (a, x) :: drep k v r
def dput (k v : Vl) (kvs : List (Vl × Vl)) : List (Vl × Vl) :=
  match dget k kvs with
  | some _ => drep k v kvs
  | none => kvs ++ [(k, v)]
def isIn (h : Hh) (x y : Vl) : Option Bool :=
  match y with
  | .ref n => match h[n]? with
    | some (.dct kvs) => if keyOk x then some (dget x kvs).isSome else none
    | some (.lst xs) => if flat x && xs.all flat then some (inB x xs) else none
    | _ => none
  | .tup xs => if flat x && xs.all flat then some (inB x xs) else none
  | .lst xs => if flat x && xs.all flat then some (inB x xs) else none
  | _ => none
def isNon : Vl → Bool
  | .non => true
  | _ => false
def cmpV (o : CO) (h : Hh) (x y : Vl) : Option Bool :=
  match o with
  | .eq => pyEq h x y
  | .ne => match pyEq h x y with
    | some b => some (!b)
    | none => none
  | .lt => match x, y with
    | .int i, .int j => some (decide (i < j))
    | _, _ => none
  | .le => match x, y with
    | .int i, .int j => some (decide (i ≤ j))
    | _, _ => none
  | .gt => match x, y with
    | .int i, .int j => some (decide (j < i))
    | _, _ => none
  | .ge => match x, y with
    | .int i, .int j => some (decide (j ≤ i))
    | _, _ => none
  | .is => match y with
    | .non => some (isNon x)
    | _ => none
  | .isnot => match y with
    | .non => some (!isNon x)
    | _ => none
  | .isin => isIn h x y
  | .notin => match isIn h x y with
    | some b => some (!b)
    | none => none
def ixN (n : Nat) (i : Int) : Option Nat :=
  match i with
  | .ofNat k => if k < n then some k else none
  | .negSucc k => if k < n then some (n - (k + 1)) else none
def subV (h : Hh) (x y : Vl) : Option Vl :=
  match y with
  | .int i => match x with
    | .ref n => match h[n]? with
      | some (.lst xs) => match ixN xs.length i with
        | some j => xs[j]?
        | none => none
      | some (.dct kvs) => dget y kvs
      | _ => none
    | .tup xs => match ixN xs.length i with
      | some j => xs[j]?
      | none => none
    | .lst xs => match ixN xs.length i with
      | some j => xs[j]?
      | none => none
    | .scr xs => match ixN xs.length i with
      | some j => xs[j]?
      | none => none
    | _ => none
  | .str _ => match x with
    | .ref n => match h[n]? with
      | some (.dct kvs) => dget y kvs
      | _ => none
    | _ => none
  | _ => none
def getO (h : Hh) (x y : Vl) : Option Vl :=
  match x with
  | .ref _ => subV h x y
  | _ => none
def sIx (n d : Nat) : Option Int → Nat
  | none => d
  | some (.ofNat k) => min k n
  | some (.negSucc k) => n - (k + 1)
def cut (xs : List Vl) (lo hi : Option Int) : List Vl := (xs.drop (sIx xs.length 0 lo)).take (sIx xs.length xs.length hi - sIx xs.length 0 lo)
def cutW (h : Hh) (x : Vl) (lo hi : Option Int) : Option Vl :=
  match x with
  | .tup xs => some (.tup (cut xs lo hi))
  | .lst xs => some (.lst (cut xs lo hi))
  | .scr xs => some (.lst (cut xs lo hi))
  | .ref n => match h[n]? with
    | some (.lst xs) => some (.lst (cut xs lo hi))
    | _ => none
  | _ => none
def partOf : Option Vl → Option (Option Int)
  | none => some none
  | some (.int i) => some (some i)
  | _ => none
def insI (x : Int) : List Int → List Int
  | [] => [x]
  | y :: r => if x ≤ y then x :: y :: r else y :: insI x r
def sortI : List Int → List Int
  | [] => []
  | x :: r => insI x (sortI r)
def sumI : List Int → Int
  | [] => 0
  | x :: r => x + sumI r
def maxI : List Int → Option Int
  | [] => none
  | [x] => some x
  | x :: r => match maxI r with
    | some m => some (if x ≤ m then m else x)
    | none => none
def minI : List Int → Option Int
  | [] => none
  | [x] => some x
  | x :: r => match minI r with
    | some m => some (if m ≤ x then m else x)
    | none => none
def rangeL (n : Nat) (a c : Int) : List Vl :=
  match n with
  | 0 => []
  | n + 1 => .int a :: rangeL n (a + c) c
def revW (h : Hh) : Vl → Option Vl
  | .tup xs => some (.tup xs.reverse)
  | x => match (match x with | .scr xs => some xs | x => lstOf h x) with
    | some xs => some (.lst xs.reverse)
    | none => none
def rngL (xs : List Vl) : Option (List Vl) :=
  match xs with
  | [.int b] => if b.natAbs < 1000000 then some (rangeL b.toNat 0 1) else none
  | [.int a, .int b] => if a.natAbs < 1000000 then (if b.natAbs < 1000000 then some (rangeL (b - a).toNat a 1) else none) else none
  | _ => none
def dkeys (h : Hh) : Vl → Option (List Int)
  | .ref n => match h[n]? with
    | some (.dct kvs) => intsOf (kvs.map (·.1))
    | _ => none
  | _ => none
def rng3 (a b c : Int) : Option Nat :=
  match decide (c ≠ 0) && decide (c.natAbs < 1073741824) && PySem.Builtin.Range.small a b c with
  | true => some (PySem.Builtin.Range.rangeSize a b c).toNat
  | false => none
def frq : Vl → Option (Bool × List Vl)
  | .tup xs => some (true, xs)
  | .lst xs => some (false, xs)
  | .scr xs => some (false, xs)
  | _ => none
def arg1 (f : Vl → Option Vl) : List Vl → Option Vl
  | [x] => f x
  | _ => none
def arg2 (f : Vl → Vl → Option Vl) : List Vl → Option Vl
  | [x, y] => f x y
  | _ => none
def lenV (h : Hh) : Vl → Option Vl
  | .str s => if s.length ≤ line then some (.int s.length) else none
  | .ref n => match h[n]? with
    | some (.lst xs) => some (.int xs.length)
    | some (.dct xs) => some (.int xs.length)
    | _ => none
  | x => match seqOf h x with
    | some l => some (.int l.length)
    | none => none
def absV : Vl → Option Vl
  | .int i => some (.int (if i < 0 then -i else i))
  | _ => none
def max2V : Vl → Vl → Option Vl
  | .int i, .int j => some (.int (if j > i then j else i))
  | _, _ => none
def min2V : Vl → Vl → Option Vl
  | .int i, .int j => some (.int (if j < i then j else i))
  | _, _ => none
def ofInts (h : Hh) (f : List Int → Option Int) (x : Vl) : Option Vl :=
  match lstOf h x with
  | some l => match intsOf l with
    | some l => match f l with
      | some m => some (.int m)
      | none => none
    | none => none
  | none => none
def ofBls (h : Hh) (f : List Bool → Bool) (x : Vl) : Option Vl :=
  match lstOf h x with
  | some l => match blsOf l with
    | some l => some (.bl (f l))
    | none => none
  | none => none
def intV : Vl → Option Vl
  | .int i => some (.int i)
  | .bl b => some (.int (if b then 1 else 0))
  | _ => none
def tupleV (h : Hh) (x : Vl) : Option Vl :=
  match seqOf h x with
  | some l => some (.tup l)
  | none => none
inductive Kd where | non | bl | int | str | tup | lst | dct | own (c : Nat)
def kdOf (h : Hh) : Vl → Option Kd
  | .non => some .non
  | .bl _ => some .bl
  | .int _ => some .int
  | .str _ => some .str
  | .tup _ => some .tup
  | .lst _ => some .lst
  | .dct _ => some .dct
  | .ins c _ => some (.own c)
  | .ref n => match h[n]? with
    | some (.lst _) => some .lst
    | _ => none
  | _ => none
def isKd (b : Bif) (k : Kd) : Option Bool :=
  match b with
  | .isint => match k with
    | .int => some true
    | .bl => some true
    | _ => some false
  | .isbool => match k with
    | .bl => some true
    | _ => some false
  | .istuple => match k with
    | .tup => some true
    | _ => some false
  | .isstr => match k with
    | .str => some true
    | _ => some false
  | .islist => match k with
    | .lst => some true
    | _ => some false
  | .isown c => match k with
    | .own d => some (d == c)
    | _ => some false
  | _ => none
def isV (b : Bif) (h : Hh) (x : Vl) : Option Vl :=
  match kdOf h x with
  | some k => match isKd b k with
    | some c => some (.bl c)
    | none => none
  | none => none
def sumV (h : Hh) (x : Vl) : Option Vl :=
  match x with
  | .tup l => match intsOf l with
    | some l => some (.int (sumI l))
    | none => none
  | x => ofInts h (fun l => some (sumI l)) x
def bifV (b : Bif) (h : Hh) (xs : List Vl) : Option Vl :=
  match b with
  | .len => arg1 (lenV h) xs
  | .abs => arg1 absV xs
  | .max2 => arg2 max2V xs
  | .min2 => arg2 min2V xs
  | .maxl => arg1 (ofInts h maxI) xs
  | .minl => arg1 (ofInts h minI) xs
  | .int => arg1 intV xs
  | .tuple => arg1 (tupleV h) xs
  | .sum => arg1 (sumV h) xs
  | .all => arg1 (ofBls h fun l => l.all id) xs
  | .any => arg1 (ofBls h fun l => l.any id) xs
  | b => arg1 (isV b h) xs
def appendV (h : Hh) (o x : Vl) : R Vl :=
  match o with
  | .ref n => match h[n]? with
    | some (.lst l) => if l.length < line then .ok .non (h.set n (.lst (l ++ [x]))) else .bad
    | _ => .bad
  | _ => .bad
def extendV (h : Hh) (o x : Vl) : R Vl :=
  match o with
  | .ref n => match h[n]? with
    | some (.lst l) => match x with
      | .lst y => if l.length + y.length ≤ line then .ok .non (h.set n (.lst (l ++ y))) else .bad
      | _ => .bad
    | _ => .bad
  | _ => .bad
def popV (h : Hh) (o : Vl) : R Vl :=
  match o with
  | .ref n => match h[n]? with
    | some (.lst l) => match l[l.length - 1]? with
      | some y => .ok y (h.set n (.lst l.dropLast))
      | none => .bad
    | _ => .bad
  | _ => .bad
def popAtV (h : Hh) (o x : Vl) : R Vl :=
  match o with
  | .ref n => match h[n]? with
    | some (.lst l) => match x with
      | .int (.ofNat k) => if k < 1000000000 then (match l[k]? with
        | some y => .ok y (h.set n (.lst (l.eraseIdx k)))
        | none => .bad) else .bad
      | _ => .bad
    | _ => .bad
  | _ => .bad
def bitsV (h : Hh) (o : Vl) : R Vl :=
  match o with
  | .int i => .ok (.int (if i = 0 then 0 else (i.natAbs.log2 + 1 : Nat))) h
  | _ => .bad
def mthV (m : Mth) (h : Hh) (o : Vl) (xs : List Vl) : R Vl :=
  match m with
  | .append => match xs with
    | [x] => appendV h o x
    | _ => .bad
  | .extend => match xs with
    | [x] => extendV h o x
    | _ => .bad
  | .pop0 => match xs with
    | [] => popV h o
    | _ => .bad
  | .pop1 => match xs with
    | [x] => popAtV h o x
    | _ => .bad
  | .bitlen => match xs with
    | [] => bitsV h o
    | _ => .bad
def rcv (m : Mth) (h : Hh) (x : Vl) : Bool :=
  match m with
  | .bitlen => true
  | _ => match x with
    | .ref n => match h[n]? with
      | some (.lst _) => true
      | _ => false
    | _ => false
def putE (env : Env) (i : Nat) (v : Vl) : Env := env.set i (some v)
def putEs : Env → List Nat → List Vl → Option Env
  | env, [], [] => some env
  | env, i :: is, v :: vs => putEs (putE env i v) is vs
  | _, _, _ => none
def tgV (tg : Tg) (v : Vl) (env : Env) : Option Env :=
  match tg with
  | .n i => some (putE env i v)
  | .t is => match v with
    | .tup xs => putEs env is xs
    | _ => none
def wipeE (env : Env) : List Nat → Env
  | [] => env
  | v :: vs => (wipeE env vs).set v none
def noX {α : Type} (r : R α) : R α :=
  match r with
  | .ok a h => .ok a h
  | _ => .bad
def compL (turn : Vl → Hh → R (Option Vl)) : List Vl → List Vl → Hh → R (List Vl)
  | [], acc, h => .ok acc h
  | x :: r, acc, h => bnd (noX (turn x h)) fun o h1 => match o with
    | some y => if acc.length < line then compL turn r (acc ++ [y]) h1 else .bad
    | none => compL turn r acc h1
inductive Wk where | its (xs : List Vl) | live (n : Nat)
def fuelW : Nat := 1000000
def compN (turn : Vl → Hh → R (Option Vl)) (n : Nat) : Nat → Nat → List Vl → Hh → R (List Vl)
  | 0, _, _, _ => .bad
  | k + 1, i, acc, h => match h[n]? with
    | some (.lst ys) => match ys[i]? with
      | some x => bnd (noX (turn x h)) fun o h1 => match o with
        | some y => if acc.length < line then compN turn n k (i + 1) (acc ++ [y]) h1 else .bad
        | none => compN turn n k (i + 1) acc h1
      | none => .ok acc h
    | _ => .bad
def walkC (turn : Vl → Hh → R (Option Vl)) (w : Wk) (h : Hh) : R (List Vl) :=
  match w with
  | .its xs => compL turn xs [] h
  | .live n => compN turn n fuelW 0 [] h
structure GT where
  gv : Nat → Option Vl            -- module names' values
  at_ : Nat → Nat → Option (Nat ⊕ Nat)   -- an attribute of a class: a slot, a property's def
  init : Nat → Option (Nat × Nat)       -- a class's __init__, how many slots it has
  exk : Nat → Option Bool    -- an error class: whether it keeps what it takes
  eqf : Nat → Option Nat     -- a class's own ==
  met : Nat → Option Mt := fun _ => none   -- a def that tells of a call
  cg : Nat → List Vl → List Ob → R Vl := fun _ _ _ => .bad   -- defs of the law's own that ask for more
def mapO (f : Vl → Option Vl) : List Vl → Option (List Vl)
  | [] => some []
  | x :: r => match f x with
    | some y => match mapO f r with
      | some l => some (y :: l)
      | none => none
    | none => none
def frV (h : Hh) (n0 : Nat) : Nat → Vl → Option Vl
  | 0, _ => none
  | k + 1, v => match v with
    | .tup xs => match mapO (frV h n0 k) xs with
      | some l => some (.tup l)
      | none => none
    | .lst xs => match mapO (frV h n0 k) xs with
      | some l => some (.lst l)
      | none => none
    | .ins c xs => match mapO (frV h n0 k) xs with
      | some l => some (.ins c l)
      | none => none
    | .ref n => if n < n0 then some (.ref n) else match h[n]? with
      | some (.lst xs) => match mapO (frV h n0 k) xs with
        | some l => some (.lst l)
        | none => none
      | _ => none
    | .scr _ => none
    | .dct xs => match xs with
      | [] => some (.dct [])
      | _ => none
    | .clo _ => none
    | v => some v
mutual
def wfV (n0 : Nat) : Vl → Bool
  | .ref n => decide (n < n0)
  | .tup xs => wfL n0 xs
  | .lst xs => wfL n0 xs
  | .scr xs => wfL n0 xs
  | .dct xs => wfL n0 xs
  | .ins _ xs => wfL n0 xs
  | .clo _ => false
  | _ => true
def wfL (n0 : Nat) : List Vl → Bool
  | [] => true
  | x :: r => match wfV n0 x with
    | true => wfL n0 r
    | false => false
end
def wfK (n0 : Nat) : List (Vl × Vl) → Bool
  | [] => true
  | (a, x) :: r => match wfV n0 a with
    | true => match wfV n0 x with
      | true => wfK n0 r
      | false => false
    | false => false
def wfF (n0 : Nat) : List (Option Vl) → Bool
  | [] => true
  | some x :: r => match wfV n0 x with
    | true => wfF n0 r
    | false => false
  | none :: r => wfF n0 r
def wfO (n0 : Nat) : Ob → Bool
  | .lst xs => wfL n0 xs
  | .dct kvs => wfK n0 kvs
  | .ins _ xs => wfF n0 xs
def wfH (n0 : Nat) : Hh → Bool
  | [] => true
  | o :: r => match wfO n0 o with
    | true => wfH n0 r
    | false => false
def fin (frz : Bool) (n0 : Nat) (v : Vl) (h : Hh) : R Vl :=
  match frz with
  | false => .ok v h
  | true => match decide (h.length ≤ n0) with
    | true => .ok v h
    | false => match frV h n0 30 v with
      | some y => match wfV n0 y with
        | true => match wfH n0 (h.take n0) with
          | true => .ok y (h.take n0)
          | false => .bad
        | false => .bad
      | none => .bad
def finX (n0 : Nat) (c : Nat) (p : Option Vl) (h : Hh) : R Vl :=
  match decide (h.length ≤ n0) with
  | true => .exc c p h
  | false => match p with
    | none => match wfH n0 (h.take n0) with
      | true => .exc c none (h.take n0)
      | false => .bad
    | some v => match frV h n0 30 v with
      | some y => match wfV n0 y with
        | true => match wfH n0 (h.take n0) with
          | true => .exc c (some y) (h.take n0)
          | false => .bad
        | false => .bad
      | none => .bad
def allSome : List (Option Vl) → Option (List Vl)
  | [] => some []
  | some x :: r => match allSome r with
    | some l => some (x :: l)
    | none => none
  | none :: _ => none
def made (c n : Nat) (v : Vl) (h : Hh) : R Vl :=
  match v with
  | .non => match decide (h.length = n + 1) with
    | true => match h[n]? with
      | some (.ins c' xs) => match decide (c' = c) with
        | true => match allSome xs with
          | some l => match wfL n l with
            | true => match wfH n (h.take n) with
              | true => .ok (.ins c l) (h.take n)
              | false => .bad
            | false => .bad
          | none => .bad
        | false => .bad
      | _ => .bad
    | false => .bad
  | _ => .bad
mutual
def dataV : Vl → Option PySem.PyData
  | .non => some .none
  | .bl b => some (.bool b)
  | .int i => some (.int i)
  | .str s => some (.str ⟨s.toArray⟩)
  | .tup xs => match dataL xs with
    | some l => some (.tuple l)
    | none => none
  | .lst xs => match dataL xs with
    | some l => some (.list l)
    | none => none
  | _ => none
def dataL : List Vl → Option (List PySem.PyData)
  | [] => some []
  | x :: r => match dataV x with
    | some d => match dataL r with
      | some l => some (d :: l)
      | none => none
    | none => none
end
def shownD (d : PySem.PyData) : Option (List Nat) := match d.showable && decide (d.shown.length ≤ 1000000) && decide (d.depth ≤ 8) with
  | true => some d.shown.cps.toList
  | false => none
def reprV : Vl → Option (List Nat)
  | .dct xs => match xs with
    | [] => shownD (.dict [])
    | _ => none
  | v => match dataV v with
    | some d => match d.hasDict with
      | true => none
      | false => shownD d
    | none => none
def heV : HE → Option Vl → Option Vl
  | .s x, _ => some (.str x)
  | .r x, p => match p with
    | some v => match reprV v with
      | some y => if (x ++ y).length ≤ line then some (.str (x ++ y)) else none
      | none => none
    | none => none
  | .p, p => p
  | .t1 a, p => match heV a p with
    | some x => some (.tup [x])
    | none => none
  | .t2 a b, p => match heV a p with
    | some x => match heV b p with
      | some y => some (.tup [x, y])
      | none => none
    | none => none
def hsV : List (Nat × HE) → Nat → Option Vl → Option Vl
  | [], _, _ => none
  | (d, e) :: r, c, p => match decide (c = d) with
    | true => heV e p
    | false => hsV r c p
def finO (n0 : Nat) (v : Option Vl) (h : Hh) : R Vl := match v with
  | some x => fin true n0 x h
  | none => .bad
def metR (M : Mt) (n0 : Nat) (r : R Vl) : R Vl := match r with
  | .ok _ h => finO n0 (heV M.fine none) h
  | .exc c p h => finO n0 (hsV M.hs c p) h
  | .bad => .bad
abbrev CF := Nat → List Vl → Hh → R Vl
def isownR (c : Nat) (x : Vl) (h : Hh) : R Vl := match kdOf h x with
  | some (.own d) => .ok (.bl (d == c)) h
  | some _ => .ok (.bl false) h
  | none => .bad
def ocmpR (G : GT) (cf : CF) (neg : Bool) (x y : Vl) (h : Hh) : R Vl := match x with
  | .ins c _ => match G.eqf c with
    | some g => match kdOf h y with
      | some _ => bnd (noX (cf g [x, y] h)) fun v h => match v with
        | .bl r => .ok (.bl (r != neg)) h
        | _ => .bad
      | none => .bad
    | none => .bad
  | _ => .bad
def attrR (G : GT) (cf : CF) (f : Nat) (x : Vl) (h : Hh) : R Vl := match x with
  | .ins c xs => match G.at_ c f with
    | some (.inl i) => lift xs[i]? h
    | some (.inr g) => noX (cf g [x] h)
    | none => .bad
  | .ref n => match h[n]? with
    | some (.ins c xs) => match G.at_ c f with
      | some (.inl i) => match xs[i]? with
        | some (some v) => .ok v h
        | _ => .bad
      | some (.inr g) => noX (cf g [x] h)
      | none => .bad
    | _ => .bad
  | _ => .bad
mutual
def evE (G : GT) (cf : CF) : Ex → Env → Hh → R Vl
  | .var i, env, h => match env[i]? with
    | some (some v) => .ok v h
    | _ => .bad
  | .int i, _, h => .ok (.int i) h
  | .bl b, _, h => .ok (.bl b) h
  | .non, _, h => .ok .non h
  | .str s, _, h => .ok (.str s) h
  | .gl g, _, h => lift (G.gv g) h
  | .bin o a b, env, h => bnd (evE G cf a env h) fun x h => bnd (evE G cf b env h) fun y h => lift (binV o h x y) h
  | .neg a, env, h => bnd (evE G cf a env h) fun x h => match x with
    | .int i => .ok (.int (-i)) h
    | _ => .bad
  | .cmp o a b, env, h => bnd (evE G cf a env h) fun x h => bnd (evE G cf b env h) fun y h => match cmpV o h x y with
    | some c => .ok (.bl c) h
    | none => .bad
  | .chain o p a b c, env, h => bnd (evE G cf a env h) fun x h => bnd (evE G cf b env h) fun y h => match cmpV o h x y with
    | some true => bnd (evE G cf c env h) fun z h => match cmpV p h y z with
      | some d => .ok (.bl d) h
      | none => .bad
    | some false => .ok (.bl false) h
    | none => .bad
  | .and a b, env, h => bnd (evE G cf a env h) fun x h => match x with
    | .bl true => evE G cf b env h
    | .bl false => .ok (.bl false) h
    | _ => .bad
  | .or a b, env, h => bnd (evE G cf a env h) fun x h => match x with
    | .bl true => .ok (.bl true) h
    | .bl false => evE G cf b env h
    | _ => .bad
  | .not a, env, h => bnd (evE G cf a env h) fun x h => match truth h x with
    | some b => .ok (.bl (!b)) h
    | none => .bad
  | .ite c a b, env, h => bnd (evE G cf c env h) fun x h => match truth h x with
    | some true => evE G cf a env h
    | some false => evE G cf b env h
    | none => .bad
  | .tup as, env, h => bnd (evA G cf as env h) fun xs h => match decide (xs.length ≤ line) with
    | true => .ok (.tup xs) h
    | false => .bad
  | .fz f, env, h => bnd (evF G cf f env h) fun xs h => .ok (.lst xs) h
  | .th f, env, h => bnd (evF G cf f env h) fun xs h => .ok (.ref h.length) (h ++ [.lst xs])
  | .sub a i, env, h => bnd (evE G cf a env h) fun x h => bnd (evE G cf i env h) fun y h => lift (subV h x y) h
  | .slc a lo hi, env, h => bnd (evE G cf a env h) fun x h => bnd (evO G cf lo env h) fun l h => bnd (evO G cf hi env h) fun u h => lift (cutW h x l u) h
  | .call f as, env, h => bnd (evA G cf as env h) fun xs h => cf f xs h
  | .callv i as, env, h => match env[i]? with
    | some (some (.fn f)) => bnd (evA G cf as env h) fun xs h => cf f xs h
    | _ => .bad
  | .mk c as, env, h => match G.init c with
    | some (f, k) => bnd (evA G cf as env h) fun xs h => bnd (cf f (.ref h.length :: xs) (h ++ [.ins c (List.replicate k none)])) fun v h' => made c h.length v h'
    | none => .bad
  | .bif b as, env, h => bnd (evA G cf as env h) fun xs h => lift (bifV b h xs) h
  | .mth m o as, env, h => bnd (evE G cf o env h) fun x h => match rcv m h x with
    | true => bnd (evA G cf as env h) fun xs h => mthV m h x xs
    | false => .bad
  | .rev a, env, h => bnd (evE G cf a env h) fun x h => lift (revW h x) h
  | .dnew, _, h => .ok (.ref h.length) (h ++ [.dct []])
  | .dz, _, h => .ok (.dct []) h
  | .rpr e, env, h => bnd (evE G cf e env h) fun x h => match reprV x with
    | some y => .ok (.str y) h
    | none => .bad
  | .lamc f b, env, h => match G.met f with
    | some M => metR M h.length (evE G cf b env h)
    | none => .bad
  | .callg f as, env, h => bnd (evA G cf as env h) fun xs h => G.cg f xs h
  | .trg as, env, h => bnd (evA G cf as env h) fun xs h => match rngL xs with
    | some l => .ok (.tup l) h
    | none => .bad
  | .attr o f, env, h => bnd (evE G cf o env h) (attrR G cf f)
  | .isown c e, env, h => bnd (evE G cf e env h) (isownR c)
  | .ocmp neg a b, env, h => bnd (evE G cf a env h) fun x h => bnd (evE G cf b env h) fun y h => ocmpR G cf neg x y h
  | _, _, _ => .bad
def evA (G : GT) (cf : CF) : Ex → Env → Hh → R (List Vl)
  | .anil, _, h => .ok [] h
  | .acons e r, env, h => bnd (evE G cf e env h) fun x h => bnd (evA G cf r env h) fun xs h => .ok (x :: xs) h
  | .astar e r, env, h => bnd (evE G cf e env h) fun x h => match seqOf h x with
    | some ys => bnd (evA G cf r env h) fun xs h => .ok (ys ++ xs) h
    | none => .bad
  | _, _, _ => .bad
def evF (G : GT) (cf : CF) : Ex → Env → Hh → R (List Vl)
  | .disp as, env, h => bnd (evA G cf as env h) fun xs h => match decide (xs.length ≤ line) with
    | true => .ok xs h
    | false => .bad
  | .comp own tg it c e, env, h => bnd (evW G cf it env h) fun w h => walkC (fun x h => match tgV tg x (wipeE env own) with
      | some env' => bnd (evC G cf c env' h) fun b h => match b with
        | true => bnd (evE G cf e env' h) fun y h => .ok (some y) h
        | false => .ok none h
      | none => .bad) w h
  | .listof e, env, h => bnd (evE G cf e env h) fun x h => lift (seqOf h x) h
  | .srt rev e, env, h => bnd (evE G cf e env h) fun x h => match lstOf h x with
    | some l => match intsOf l with
      | some l => match rev with
        | true => .ok ((sortI l).reverse.map .int) h
        | false => .ok ((sortI l).map .int) h
      | none => .bad
    | none => match dkeys h x with
      | some ks => match rev with
        | true => .bad
        | false => match decide (ks.length < 64) with
          | true => .ok ((sortI ks).map .int) h
          | false => .bad
      | none => .bad
  | .lrg as, env, h => bnd (evA G cf as env h) fun xs h => lift (rngL xs) h
  | .cat a b, env, h => bnd (evE G cf a env h) fun x h => bnd (evE G cf b env h) fun y h => lift (catV h x y) h
  | .rep a b, env, h => bnd (evE G cf a env h) fun x h => bnd (evE G cf b env h) fun y h => lift (repV h x y) h
  | .slf a lo hi, env, h => bnd (evE G cf a env h) fun x h => bnd (evO G cf lo env h) fun l h => bnd (evO G cf hi env h) fun u h => match lstOf h x with
    | some xs => .ok (cut xs l u) h
    | none => .bad
  | _, _, _ => .bad
def evW (G : GT) (cf : CF) : Ex → Env → Hh → R Wk
  | .over e, env, h => bnd (evE G cf e env h) fun x h => match x with
    | .tup xs => .ok (.its xs) h
    | .lst xs => .ok (.its xs) h
    | .scr xs => .ok (.its xs) h
    | .ref n => match h[n]? with
      | some (.lst _) => .ok (.live n) h
      | _ => .bad
    | _ => .bad
  | .range as, env, h => bnd (evA G cf as env h) fun xs h => match xs with
    | [.int b] => match decide (b.natAbs < 1000000000) with
      | true => .ok (.its (rangeL b.toNat 0 1)) h
      | false => .bad
    | [.int a, .int b] => match decide (a.natAbs < 1000000000) with
      | true => match decide (b.natAbs < 1000000000) with
        | true => .ok (.its (rangeL (b - a).toNat a 1)) h
        | false => .bad
      | false => .bad
    | [.int a, .int b, .int c] => match rng3 a b c with
      | some n => .ok (.its (rangeL n a c)) h
      | none => .bad
    | _ => .bad
  | .enum e, env, h => bnd (evE G cf e env h) fun x h => match frq x with
    | some (_, xs) => .ok (.its (List.zipWith (fun i v => .tup [i, v]) (rangeL xs.length 0 1) xs)) h
    | none => .bad
  | .zip a b, env, h => bnd (evE G cf a env h) fun x h => bnd (evE G cf b env h) fun y h => match frq x with
    | some (_, xs) => match frq y with
      | some (_, ys) => .ok (.its (List.zipWith (fun u v => .tup [u, v]) xs ys)) h
      | none => .bad
    | none => .bad
  | _, _, _ => .bad
def evO (G : GT) (cf : CF) : Ex → Env → Hh → R (Option Int)
  | .noe, _, h => .ok none h
  | .sm e, env, h => bnd (evE G cf e env h) fun x h => match x with
    | .int i => .ok (some i) h
    | _ => .bad
  | _, _, _ => .bad
def evC (G : GT) (cf : CF) : Ex → Env → Hh → R Bool
  | .noe, _, h => .ok true h
  | .sm e, env, h => bnd (evE G cf e env h) fun x h => lift (truth h x) h
  | _, _, _ => .bad
end
inductive Oc where
  | nx (env : Env)
  | rt (v : Vl)
  | bk (env : Env)
  | ct (env : Env)
def bndS (r : R Oc) (f : Env → Hh → R Oc) : R Oc :=
  match r with
  | .ok (.nx env) h => f env h
  | r => r
def forL (turn : Vl → Env → Hh → R Oc) : List Vl → Env → Hh → R Oc
  | [], env, h => .ok (.nx env) h
  | x :: r, env, h => match turn x env h with
    | .ok (.nx env1) h1 => forL turn r env1 h1
    | .ok (.ct env1) h1 => forL turn r env1 h1
    | .ok (.bk env1) h1 => .ok (.nx env1) h1
    | .ok (.rt v) h1 => .ok (.rt v) h1
    | .exc c p h1 => .exc c p h1
    | .bad => .bad
def forN (turn : Vl → Env → Hh → R Oc) (n : Nat) : Nat → Nat → Env → Hh → R Oc
  | 0, _, _, _ => .bad
  | k + 1, i, env, h => match h[n]? with
    | some (.lst ys) => match ys[i]? with
      | some x => match turn x env h with
        | .ok (.nx env1) h1 => forN turn n k (i + 1) env1 h1
        | .ok (.ct env1) h1 => forN turn n k (i + 1) env1 h1
        | .ok (.bk env1) h1 => .ok (.nx env1) h1
        | .ok (.rt v) h1 => .ok (.rt v) h1
        | .exc c p h1 => .exc c p h1
        | .bad => .bad
      | none => .ok (.nx env) h
    | _ => .bad
def walkF (turn : Vl → Env → Hh → R Oc) (w : Wk) (env : Env) (h : Hh) : R Oc :=
  match w with
  | .its xs => forL turn xs env h
  | .live n => forN turn n fuelW 0 env h
def whileL (test : Env → Hh → R Bool) (body : Env → Hh → R Oc) : Nat → Env → Hh → R Oc
  | 0, _, _ => .bad
  | k + 1, env, h => match test env h with
    | .ok true h1 => match body env h1 with
      | .ok (.nx env2) h2 => whileL test body k env2 h2
      | .ok (.ct env2) h2 => whileL test body k env2 h2
      | .ok (.bk env2) h2 => .ok (.nx env2) h2
      | .ok (.rt v) h2 => .ok (.rt v) h2
      | .exc c p h2 => .exc c p h2
      | .bad => .bad
    | .ok false h1 => .ok (.nx env) h1
    | .exc c p h1 => .exc c p h1
    | .bad => .bad
def setV (h : Hh) (o i v : Vl) : Option Hh :=
  match o with
  | .ref n => match h[n]? with
    | some (.lst xs) => match i with
      | .int k => match ixN xs.length k with
        | some j => some (h.set n (.lst (xs.set j v)))
        | none => none
      | _ => none
    | some (.dct kvs) => match keyOk i with
      | true => if kvs.length < line then some (h.set n (.dct (dput i v kvs))) else none
      | false => none
    | _ => none
  | _ => none
def setF (G : GT) (h : Hh) (o : Vl) (f : Nat) (v : Vl) : Option Hh :=
  match o with
  | .ref n => match h[n]? with
    | some (.ins c xs) => match G.at_ c f with
      | some (.inl i) => if i < xs.length then some (h.set n (.ins c (xs.set i (some v)))) else none
      | _ => none
    | _ => none
  | _ => none
def setFs (G : GT) (h : Hh) (o : Vl) : List Nat → List Vl → Option Hh
  | [], [] => some h
  | f :: fs, v :: vs => match setF G h o f v with
    | some h => setFs G h o fs vs
    | none => none
  | _, _ => none
def evS (G : GT) (cf : CF) : St → Env → Hh → R Oc
  | .skip, env, h => .ok (.nx env) h
  | .never, _, _ => .bad
  | .seq a b, env, h => bndS (evS G cf a env h) fun env h => evS G cf b env h
  | .ex e, env, h => bnd (evE G cf e env h) fun _ h => .ok (.nx env) h
  | .set i e, env, h => bnd (evE G cf e env h) fun v h => .ok (.nx (putE env i v)) h
  | .par is as, env, h => bnd (evA G cf as env h) fun vs h => match putEs env is vs with
    | some env' => .ok (.nx env') h
    | none => .bad
  | .unp is e, env, h => bnd (evE G cf e env h) fun v h => match tgV (.t is) v env with
    | some env' => .ok (.nx env') h
    | none => .bad
  | .aug i o e, env, h => match env[i]? with
    | some (some x) => bnd (evE G cf e env h) fun y h => match augV o h x y with
      | some v => .ok (.nx (putE env i v)) h
      | none => .bad
    | _ => .bad
  | .sets o i e, env, h => bnd (evE G cf e env h) fun v h => bnd (evE G cf o env h) fun x h => bnd (evE G cf i env h) fun y h => match setV h x y v with
    | some h => .ok (.nx env) h
    | none => .bad
  | .augs o i b e, env, h => bnd (evE G cf o env h) fun x h => bnd (evE G cf i env h) fun y h => match getO h x y with
    | some z => bnd (evE G cf e env h) fun w h => match augV b h z w with
      | some v => match setV h x y v with
        | some h => .ok (.nx env) h
        | none => .bad
      | none => .bad
    | none => .bad
  | .setf o f e, env, h => bnd (evE G cf e env h) fun v h => bnd (evE G cf o env h) fun x h => match setF G h x f v with
    | some h => .ok (.nx env) h
    | none => .bad
  | .parf o fs as, env, h => match env[o]? with
    | some (some x) => bnd (evA G cf as env h) fun vs h => match setFs G h x fs vs with
      | some h => .ok (.nx env) h
      | none => .bad
    | _ => .bad
  | .ifs c a b, env, h => bnd (evE G cf c env h) fun x h => match truth h x with
    | some true => evS G cf a env h
    | some false => evS G cf b env h
    | none => .bad
  | .fors tg it b, env, h => bnd (evW G cf it env h) fun w h => walkF (fun x env h => match tgV tg x env with
    | some env' => evS G cf b env' h
    | none => .bad) w env h
  | .whiles c b, env, h => whileL (fun env h => bnd (evE G cf c env h) fun x h => lift (truth h x) h) (fun env h => evS G cf b env h) fuelW env h
  | .ret e, env, h => bnd (evE G cf e env h) fun v h => .ok (.rt v) h
  | .brk, env, h => .ok (.bk env) h
  | .cnt, env, h => .ok (.ct env) h
  | .raise c as, env, h => bnd (evA G cf as env h) fun vs h => match vs with
    | [v] => match G.exk c with
      | some true => .exc c (some v) h
      | some false => .exc c none h
      | none => .bad
    | _ => .bad
structure FD where
  ar : Nat
  sl : Nat
  frz : Bool
  body : St
def endF (frz : Bool) (n0 : Nat) (r : R Oc) : R Vl :=
  match r with
  | .ok (.rt v) h => fin frz n0 v h
  | .ok (.nx _) h => fin frz n0 .non h
  | .ok _ _ => .bad
  | .exc c p h => finX n0 c p h
  | .bad => .bad
def run (G : GT) (ft : Nat → Option FD) : Nat → CF
  | 0 => fun _ _ _ => .bad
  | n + 1 => fun f args h => match ft f with
    | some d => match decide (args.length = d.ar) with
      | true => endF d.frz h.length (evS G (run G ft n) d.body (args.map some ++ List.replicate (d.sl - d.ar) none) h)
      | false => .bad
    | none => .bad
def run2 (G : GT) (cf : CF) (ft : Nat → Option FD) : Nat → CF
  | 0 => fun _ _ _ => .bad
  | n + 1 => fun f args h => match ft f with
    | some d => match decide (args.length = d.ar) with
      | true => endF d.frz h.length (evS { G with cg := run2 G cf ft n } cf d.body (args.map some ++ List.replicate (d.sl - d.ar) none) h)
      | false => .bad
    | none => .bad
end Mi
set_option Elab.async false
set_option linter.all false
set_option maxRecDepth 100000
set_option maxHeartbeats 4000000
namespace Mi
open PySem L2
structure Gm where
  P : Program
  w : World
  K : PySem.W.Frag
  mg : Str → Option Value
  base : Heap
  fa : Nat → Addr
  ca : Nat → Addr
  xa : Nat → Addr
  xf : Nat → Str
  cok : Nat → Bool
  tabs : List (Addr × Str) := []
def ScL (K : PySem.W.Frag) (L m : List Addr) (H : Hp) (a : Addr) (us : List V) : Prop :=
  (∃ o, H a = some (.frz o (.lst us))) ∨ (∃ o its n, K.lookup a = some o ∧ o.cls = .type "list" ∧ o.dict = none ∧ o.data = .seq its n ∧ its.size ≤ sizeLine ∧ Vals us its.toList)
mutual
def RepV (Γ : Gm) (L m : List Addr) (H : Hp) : Vl → V → Prop
  | .non, v => v = .non
  | .bl b, v => v = .bl b
  | .int i, v => v = .int i
  | .str s, v => v = .str ⟨s.toArray⟩
  | .tup xs, v => ∃ a us, v = .ref a ∧ SqT Γ.K H a us ∧ RepL Γ L m H xs us
  | .lst xs, v => ∃ a us, v = .ref a ∧ H a = some (.lst us) ∧ a ∉ m ∧ a ∉ L ∧ RepL Γ L m H xs us
  | .scr xs, v => ∃ a us, v = .ref a ∧ ScL Γ.K L m H a us ∧ RepL Γ L m H xs us
  | .ins c xs, v => ∃ a dx vs us, v = .ref a ∧ SlAt H a (Γ.ca c) dx vs ∧ a ∉ m ∧ a ∉ L ∧ dx ∉ m ∧ dx ∉ L ∧ (Γ.cok c = true ∧ ∀ (i : Nat) (u : V), us[i]? = some u → vs[i]? = some (some u)) ∧ RepL Γ L m H xs us
  | .dct xs, v => xs = [] ∧ ∃ a, v = .ref a ∧ H a = some (.dK []) ∧ a ∉ m ∧ a ∉ L
  | .ref n, v => ∃ a, v = .ref a ∧ m[n]? = some a
  | .fn g, v => v = .ref (Γ.fa g)
  | .clo _, _ => False
def RepL (Γ : Gm) (L m : List Addr) (H : Hp) : List Vl → List V → Prop
  | [], [] => True
  | x :: xs, u :: us => RepV Γ L m H x u ∧ RepL Γ L m H xs us
  | _, _ => False
end
structure Grow (m : List Addr) (H : Hp) (m' : List Addr) (H' : Hp) : Prop where
  ext : ∃ t, m' = m ++ t ∧ ∀ a ∈ t, H a = none
  keep : ∀ a o, H a = some o → a ∉ m → (∀ ps, o ≠ .tbl ps) → H' a = some o
  tup : ∀ a us, H a = some (.tup us) → H' a = some (.tup us)
  frz : ∀ a o u, H a = some (.frz o u) → H' a = some (.frz o u)
  own : ∀ a x, H a = some (.own x) → H' a = some (.own x)
  tbl : ∀ a ps, H a = some (.tbl ps) → ∃ qs, H' a = some (.tbl qs)
theorem Grow.refl (m : List Addr) (H : Hp) : Grow m H m H := ⟨⟨[], by simp, fun _ h => nomatch h⟩, fun _ _ h _ _ => h, fun _ _ h => h, fun _ _ _ h => h, fun _ _ h => h, fun _ ps h => ⟨ps, h⟩⟩
theorem free_back {m m1 : List Addr} {H H1 : Hp} (g : Grow m H m1 H1) {a : Addr} (h : H1 a = none) : H a = none ∨ a ∈ m := by
  by_cases ha : a ∈ m
  · exact .inr ha
  · left
    cases e : H a with
    | none => rfl
    | some o =>
      by_cases ht : ∃ ps, o = .tbl ps
      · obtain ⟨ps, rfl⟩ := ht
        obtain ⟨qs, q⟩ := g.tbl a ps e
        rw [h] at q
        cases q
      · have := g.keep a o e ha fun ps z => ht ⟨ps, z⟩
        rw [h] at this
        cases this
theorem Grow.mem {m m1 : List Addr} {H H1 : Hp} (g : Grow m H m1 H1) {a : Addr} (h : a ∈ m) : a ∈ m1 := by
  obtain ⟨t, e, _⟩ := g.ext
  rw [e]
  exact List.mem_append_left _ h
theorem Grow.get {m m1 : List Addr} {H H1 : Hp} (g : Grow m H m1 H1) {n : Nat} {a : Addr} (h : m[n]? = some a) : m1[n]? = some a := by
  obtain ⟨t, e, _⟩ := g.ext
  rw [e, List.getElem?_append_left (List.getElem?_eq_some_iff.mp h).1]
  exact h
theorem Grow.out {m m1 : List Addr} {H H1 : Hp} (g : Grow m H m1 H1) {a : Addr} {o : HO} (h : H a = some o) (n : a ∉ m) : a ∉ m1 := by
  obtain ⟨t, e, f⟩ := g.ext
  rw [e]
  intro z
  rcases List.mem_append.mp z with z | z
  · exact n z
  · rw [f a z] at h
    cases h
theorem Grow.trans {m m1 m2 : List Addr} {H H1 H2 : Hp} (a : Grow m H m1 H1) (b : Grow m1 H1 m2 H2) (hm : ∀ x ∈ m, ∃ o, H1 x = some o) : Grow m H m2 H2 where
  ext := by
    obtain ⟨t, e, f⟩ := a.ext
    obtain ⟨t', e', f'⟩ := b.ext
    refine ⟨t ++ t', by rw [e', e, List.append_assoc], fun x hx => ?_⟩
    rcases List.mem_append.mp hx with hx | hx
    · exact f x hx
    · rcases free_back a (f' x hx) with z | z
      · exact z
      · obtain ⟨o, ho⟩ := hm x z
        rw [f' x hx] at ho
        cases ho
  keep := fun x o h n t => b.keep x o (a.keep x o h n t) (a.out h n) t
  tup := fun x us h => b.tup x us (a.tup x us h)
  frz := fun x o u h => b.frz x o u (a.frz x o u h)
  own := fun x y h => b.own x y (a.own x y h)
  tbl := fun x ps h => let ⟨qs, q⟩ := a.tbl x ps h; b.tbl x qs q
section
variable {Γ : Gm} {L m m1 : List Addr} {H H1 : Hp}
theorem sqT_grow {a : Addr} {us : List V} (g : Grow m H m1 H1) (h : SqT Γ.K H a us) : SqT Γ.K H1 a us := by
  rcases h with (h | ⟨o, h⟩) | h
  · exact .inl (.inl (g.tup _ _ h))
  · exact .inl (.inr ⟨o, g.frz _ _ _ h⟩)
  · exact .inr h
theorem slAt_grow {a C dx : Addr} {vs : List (Option V)} (g : Grow m H m1 H1) (h : SlAt H a C dx vs) (n : a ∉ m) : SlAt H1 a C dx vs := by
  obtain ⟨h1, h2, h3⟩ := h
  refine ⟨g.own _ _ h1, h2, ?_⟩
  rcases h3 with h3 | ⟨e, h3⟩
  · exact .inl (g.keep _ _ h3 n fun ps z => by unfold SlO at z; cases z)
  · exact .inr ⟨e, g.keep _ _ h3 n fun ps z => by cases z⟩
theorem SlAt.there {H : Hp} {a C dx : Addr} {vs : List (Option V)} (h : SlAt H a C dx vs) : ∃ o, H a = some o := by
  rcases h.2.2 with e | ⟨_, e⟩ <;> exact ⟨_, e⟩
mutual
theorem RepV.grow (g : Grow m H m1 H1) : ∀ {x : Vl} {v : V}, RepV Γ L m H x v → RepV Γ L m1 H1 x v
  | .non, _, h => h
  | .bl _, _, h => h
  | .int _, _, h => h
  | .str _, _, h => h
  | .tup _, _, h => by
    obtain ⟨a, us, e, q, r⟩ := h
    exact ⟨a, us, e, sqT_grow g q, RepL.grow g r⟩
  | .lst _, _, h => by
    obtain ⟨a, us, e, q, n, n2, r⟩ := h
    exact ⟨a, us, e, g.keep _ _ q n (fun _ z => nomatch z), g.out q n, n2, RepL.grow g r⟩
  | .scr _, _, h => by
    obtain ⟨a, us, e, q, r⟩ := h
    refine ⟨a, us, e, ?_, RepL.grow g r⟩
    rcases q with ⟨o, q⟩ | q
    · exact .inl ⟨o, g.frz _ _ _ q⟩
    · exact .inr q
  | .ins _ _, _, h => by
    obtain ⟨a, dx, vs, us, e, q, n1, n2, n3, n4, f, r⟩ := h
    obtain ⟨o, ho⟩ := SlAt.there q
    exact ⟨a, dx, vs, us, e, slAt_grow g q n1, g.out ho n1, n2, g.out q.1 n3, n4, f, RepL.grow g r⟩
  | .dct _, _, h => by
    obtain ⟨z, a, e, q, n, n2⟩ := h
    exact ⟨z, a, e, g.keep _ _ q n (fun _ z => nomatch z), g.out q n, n2⟩
  | .ref _, _, h => by
    obtain ⟨a, e, q⟩ := h
    exact ⟨a, e, g.get q⟩
  | .fn _, _, h => h
  | .clo _, _, h => h.elim
theorem RepL.grow (g : Grow m H m1 H1) : ∀ {xs : List Vl} {vs : List V}, RepL Γ L m H xs vs → RepL Γ L m1 H1 xs vs
  | [], [], _ => trivial
  | _ :: _, _ :: _, h => ⟨RepV.grow g h.1, RepL.grow g h.2⟩
  | [], _ :: _, h => h.elim
  | _ :: _, [], h => h.elim
end
mutual
theorem RepV.apart {D : Addr} (hD : H D = none) : ∀ {x : Vl} {v : V}, RepV Γ L m H x v → RepV Γ (D :: L) m H x v
  | .non, _, h => h
  | .bl _, _, h => h
  | .int _, _, h => h
  | .str _, _, h => h
  | .tup _, _, h => by
    obtain ⟨a, us, e, q, r⟩ := h
    exact ⟨a, us, e, q, RepL.apart hD r⟩
  | .lst _, _, h => by
    obtain ⟨a, us, e, q, n, n2, r⟩ := h
    exact ⟨a, us, e, q, n, fun z => (List.mem_cons.mp z).elim (fun z => ne_of_none q hD z) n2, RepL.apart hD r⟩
  | .scr _, _, h => by
    obtain ⟨a, us, e, q, r⟩ := h
    exact ⟨a, us, e, q, RepL.apart hD r⟩
  | .ins _ _, _, h => by
    obtain ⟨a, dx, vs, us, e, q, n1, n2, n3, n4, f, r⟩ := h
    obtain ⟨o, ho⟩ := SlAt.there q
    exact ⟨a, dx, vs, us, e, q, n1, fun z => (List.mem_cons.mp z).elim (fun z => ne_of_none ho hD z) n2, n3, fun z => (List.mem_cons.mp z).elim (fun z => ne_of_none q.1 hD z) n4, f, RepL.apart hD r⟩
  | .dct _, _, h => by
    obtain ⟨z, a, e, q, n, n2⟩ := h
    exact ⟨z, a, e, q, n, fun y => (List.mem_cons.mp y).elim (fun y => ne_of_none q hD y) n2⟩
  | .ref _, _, h => h
  | .fn _, _, h => h
  | .clo _, _, h => h.elim
theorem RepL.apart {D : Addr} (hD : H D = none) : ∀ {xs : List Vl} {vs : List V}, RepL Γ L m H xs vs → RepL Γ (D :: L) m H xs vs
  | [], [], _ => trivial
  | _ :: _, _ :: _, h => ⟨RepV.apart hD h.1, RepL.apart hD h.2⟩
  | [], _ :: _, h => h.elim
  | _ :: _, [], h => h.elim
end
mutual
theorem RepV.joined {D : Addr} : ∀ {x : Vl} {v : V}, RepV Γ (D :: L) m H x v → RepV Γ L m H x v
  | .non, _, h => h
  | .bl _, _, h => h
  | .int _, _, h => h
  | .str _, _, h => h
  | .tup _, _, h => by
    obtain ⟨a, us, e, q, r⟩ := h
    exact ⟨a, us, e, q, RepL.joined r⟩
  | .lst _, _, h => by
    obtain ⟨a, us, e, q, n, n2, r⟩ := h
    exact ⟨a, us, e, q, n, fun z => n2 (List.mem_cons_of_mem _ z), RepL.joined r⟩
  | .scr _, _, h => by
    obtain ⟨a, us, e, q, r⟩ := h
    exact ⟨a, us, e, q, RepL.joined r⟩
  | .ins _ _, _, h => by
    obtain ⟨a, dx, vs, us, e, q, n1, n2, n3, n4, f, r⟩ := h
    exact ⟨a, dx, vs, us, e, q, n1, fun z => n2 (List.mem_cons_of_mem _ z), n3, fun z => n4 (List.mem_cons_of_mem _ z), f, RepL.joined r⟩
  | .dct _, _, h => by
    obtain ⟨z, a, e, q, n, n2⟩ := h
    exact ⟨z, a, e, q, n, fun y => n2 (List.mem_cons_of_mem _ y)⟩
  | .ref _, _, h => h
  | .fn _, _, h => h
  | .clo _, _, h => h.elim
theorem RepL.joined {D : Addr} : ∀ {xs : List Vl} {vs : List V}, RepL Γ (D :: L) m H xs vs → RepL Γ L m H xs vs
  | [], [], _ => trivial
  | _ :: _, _ :: _, h => ⟨RepV.joined h.1, RepL.joined h.2⟩
  | [], _ :: _, h => h.elim
  | _ :: _, [], h => h.elim
end
theorem get_snoc {m : List Addr} {n : Nat} {a D : Addr} (h : m[n]? = some a) : (m ++ [D])[n]? = some a := by
  rw [List.getElem?_append_left (List.getElem?_eq_some_iff.mp h).1]
  exact h
mutual
theorem RepV.moved {D : Addr} : ∀ {x : Vl} {v : V}, RepV Γ (D :: L) m H x v → RepV Γ L (m ++ [D]) H x v
  | .non, _, h => h
  | .bl _, _, h => h
  | .int _, _, h => h
  | .str _, _, h => h
  | .tup _, _, h => by
    obtain ⟨a, us, e, q, r⟩ := h
    exact ⟨a, us, e, q, RepL.moved r⟩
  | .lst _, _, h => by
    obtain ⟨a, us, e, q, n, n2, r⟩ := h
    refine ⟨a, us, e, q, fun z => ?_, fun z => n2 (List.mem_cons_of_mem _ z), RepL.moved r⟩
    rcases List.mem_append.mp z with z | z
    · exact n z
    · exact n2 (List.mem_cons.mpr (.inl (List.mem_singleton.mp z)))
  | .scr _, _, h => by
    obtain ⟨a, us, e, q, r⟩ := h
    exact ⟨a, us, e, q, RepL.moved r⟩
  | .ins _ _, _, h => by
    obtain ⟨a, dx, vs, us, e, q, n1, n2, n3, n4, f, r⟩ := h
    refine ⟨a, dx, vs, us, e, q, fun z => ?_, fun z => n2 (List.mem_cons_of_mem _ z), fun z => ?_, fun z => n4 (List.mem_cons_of_mem _ z), f, RepL.moved r⟩
    · rcases List.mem_append.mp z with z | z
      · exact n1 z
      · exact n2 (List.mem_cons.mpr (.inl (List.mem_singleton.mp z)))
    · rcases List.mem_append.mp z with z | z
      · exact n3 z
      · exact n4 (List.mem_cons.mpr (.inl (List.mem_singleton.mp z)))
  | .dct _, _, h => by
    obtain ⟨z, a, e, q, n, n2⟩ := h
    refine ⟨z, a, e, q, fun y => ?_, fun y => n2 (List.mem_cons_of_mem _ y)⟩
    rcases List.mem_append.mp y with y | y
    · exact n y
    · exact n2 (List.mem_cons.mpr (.inl (List.mem_singleton.mp y)))
  | .ref _, _, h => by
    obtain ⟨a, e, q⟩ := h
    exact ⟨a, e, get_snoc q⟩
  | .fn _, _, h => h
  | .clo _, _, h => h.elim
theorem RepL.moved {D : Addr} : ∀ {xs : List Vl} {vs : List V}, RepL Γ (D :: L) m H xs vs → RepL Γ L (m ++ [D]) H xs vs
  | [], [], _ => trivial
  | _ :: _, _ :: _, h => ⟨RepV.moved h.1, RepL.moved h.2⟩
  | [], _ :: _, h => h.elim
  | _ :: _, [], h => h.elim
end
structure Chg (D : Addr) (H H' : Hp) : Prop where
  was : ∃ us, H D = some (.lst us)
  rest : ∀ a, a ≠ D → H' a = H a
theorem Chg.upd {D : Addr} {us us' : List V} (h : H D = some (.lst us)) : Chg D H (upd H D (.lst us')) := ⟨⟨us, h⟩, fun _ n => upd_ne n⟩
theorem Chg.ne {D a : Addr} {H H' : Hp} {o : HO} (c : Chg D H H') (h : H a = some o) (n : ∀ us, o ≠ .lst us) : a ≠ D := fun z => by
  obtain ⟨us, e⟩ := c.was
  rw [z, e] at h
  exact n us (Option.some.inj h).symm
theorem SlO_ne {C dx x : Addr} {vs : List (Option V)} (us : List V) : SlO C dx x vs ≠ .lst us := fun z => by
  unfold SlO at z
  cases z
theorem sqT_chg {D a : Addr} {H' : Hp} {us : List V} (c : Chg D H H') (h : SqT Γ.K H a us) : SqT Γ.K H' a us := by
  rcases h with (h | ⟨o, h⟩) | h
  · exact .inl (.inl (by rw [c.rest _ (c.ne h (fun _ z => nomatch z))]; exact h))
  · exact .inl (.inr ⟨o, by rw [c.rest _ (c.ne h (fun _ z => nomatch z))]; exact h⟩)
  · exact .inr h
theorem slAt_chg {D a C dx : Addr} {H' : Hp} {vs : List (Option V)} (c : Chg D H H') (h : SlAt H a C dx vs) : SlAt H' a C dx vs := by
  obtain ⟨h1, h2, h3⟩ := h
  refine ⟨by rw [c.rest _ (c.ne h1 (fun _ z => nomatch z))]; exact h1, h2, ?_⟩
  rcases h3 with h3 | ⟨e, h3⟩
  · exact .inl (by rw [c.rest _ (c.ne h3 SlO_ne)]; exact h3)
  · exact .inr ⟨e, by rw [c.rest _ (c.ne h3 (fun _ z => nomatch z))]; exact h3⟩
mutual
theorem RepV.chg {D : Addr} {H' : Hp} (c : Chg D H H') : ∀ {x : Vl} {v : V}, RepV Γ (D :: L) m H x v → RepV Γ (D :: L) m H' x v
  | .non, _, h => h
  | .bl _, _, h => h
  | .int _, _, h => h
  | .str _, _, h => h
  | .tup _, _, h => by
    obtain ⟨a, us, e, q, r⟩ := h
    exact ⟨a, us, e, sqT_chg c q, RepL.chg c r⟩
  | .lst _, _, h => by
    obtain ⟨a, us, e, q, n, n2, r⟩ := h
    exact ⟨a, us, e, by rw [c.rest _ (fun z => n2 (List.mem_cons.mpr (.inl z)))]; exact q, n, n2, RepL.chg c r⟩
  | .scr _, _, h => by
    obtain ⟨a, us, e, q, r⟩ := h
    refine ⟨a, us, e, ?_, RepL.chg c r⟩
    rcases q with ⟨o, q⟩ | q
    · exact .inl ⟨o, by rw [c.rest _ (c.ne q (fun _ z => nomatch z))]; exact q⟩
    · exact .inr q
  | .ins _ _, _, h => by
    obtain ⟨a, dx, vs, us, e, q, n1, n2, n3, n4, f, r⟩ := h
    exact ⟨a, dx, vs, us, e, slAt_chg c q, n1, n2, n3, n4, f, RepL.chg c r⟩
  | .dct _, _, h => by
    obtain ⟨z, a, e, q, n, n2⟩ := h
    exact ⟨z, a, e, by rw [c.rest _ (fun y => n2 (List.mem_cons.mpr (.inl y)))]; exact q, n, n2⟩
  | .ref _, _, h => h
  | .fn _, _, h => h
  | .clo _, _, h => h.elim
theorem RepL.chg {D : Addr} {H' : Hp} (c : Chg D H H') : ∀ {xs : List Vl} {vs : List V}, RepL Γ (D :: L) m H xs vs → RepL Γ (D :: L) m H' xs vs
  | [], [], _ => trivial
  | _ :: _, _ :: _, h => ⟨RepV.chg c h.1, RepL.chg c h.2⟩
  | [], _ :: _, h => h.elim
  | _ :: _, [], h => h.elim
end
theorem RepL.length : ∀ {xs : List Vl} {vs : List V}, RepL Γ L m H xs vs → xs.length = vs.length
  | [], [], _ => rfl
  | _ :: _, _ :: _, h => congrArg (· + 1) (RepL.length h.2)
  | [], _ :: _, h => h.elim
  | _ :: _, [], h => h.elim
theorem RepL.get : ∀ {xs : List Vl} {vs : List V} {i : Nat} {x : Vl}, RepL Γ L m H xs vs → xs[i]? = some x → ∃ v, vs[i]? = some v ∧ RepV Γ L m H x v
  | [], [], _, _, _, e => by simp at e
  | x :: _, v :: _, 0, _, h, e => by
    cases Option.some.inj e
    exact ⟨v, rfl, h.1⟩
  | _ :: xs, _ :: vs, i + 1, _, h, e => RepL.get (xs := xs) (vs := vs) (i := i) h.2 e
  | [], _ :: _, _, _, h, _ => h.elim
  | _ :: _, [], _, _, h, _ => h.elim
theorem RepL.of_get : ∀ {xs : List Vl} {vs : List V}, xs.length = vs.length → (∀ (i : Nat) x v, xs[i]? = some x → vs[i]? = some v → RepV Γ L m H x v) → RepL Γ L m H xs vs
  | [], [], _, _ => trivial
  | x :: xs, v :: vs, e, h => ⟨h 0 x v rfl rfl, RepL.of_get (by simpa using e) fun i y u a b => h (i + 1) y u a b⟩
  | [], _ :: _, e, _ => by simp at e
  | _ :: _, [], e, _ => by simp at e
theorem RepL.append {xs ys : List Vl} {vs ws : List V} (a : RepL Γ L m H xs vs) (b : RepL Γ L m H ys ws) : RepL Γ L m H (xs ++ ys) (vs ++ ws) := by
  induction xs generalizing vs with
  | nil => cases vs with
    | nil => exact b
    | cons _ _ => exact a.elim
  | cons x xs ih => cases vs with
    | nil => exact a.elim
    | cons v vs => exact ⟨a.1, ih a.2⟩
theorem slO_code {C dx x c : Addr} {vs : List (Option V)} {q : Str} : SlO C dx x vs ≠ LamX.CodeO c q := fun z => by
  have z1 : HO.ext (SlP C dx x vs) = HO.ext fun h => ∃ (oc : Obj) (vs : Array Value) (t : Tok), h.get? c = some oc ∧ oc.data = .fields vs ∧ vs[1]? = some (.str q t) := z
  injection z1 with z1
  have hg : ∀ b, b ≤ max x c → ({ objs := Array.replicate (max x c + 1) { cls := .none, dict := none, data := .fields #[.none, .str q 0] } } : Heap).get? b = some { cls := .none, dict := none, data := .fields #[.none, .str q 0] } := fun b hb => by
    unfold Heap.get?
    simp [Nat.lt_succ_of_le hb]
  have y := congrFun z1 { objs := Array.replicate (max x c + 1) { cls := .none, dict := none, data := .fields #[.none, .str q 0] } }
  have y2 := y.mpr ⟨_, _, 0, hg c (Nat.le_max_right ..), rfl, rfl⟩
  obtain ⟨us, _, e⟩ := y2
  rw [hg x (Nat.le_max_left ..)] at e
  cases e
section
variable {T : List (Addr × Str)} {H H' : Hp}
theorem tabs_fresh {p : Addr} {o : HO} (t : LamX.Tabs T H) (hp : H p = none) : LamX.Tabs T (upd H p o) := t.ext fun b u e => by rw [upd_ne (ne_of_none e hp)]; exact e
theorem tabs_but {a : Addr} {u : HO} (t : LamX.Tabs T H) (e : H a = some u) (n1 : ∀ ps, u ≠ .tbl ps) (n2 : ∀ c q, u ≠ LamX.CodeO c q) (r : ∀ b, b ≠ a → H' b = H b) : LamX.Tabs T H' := fun p hp => by
  obtain ⟨ps, h1, h2, h3⟩ := t p hp
  have q1 : p.1 ≠ a := fun z => by
    rw [z, e] at h1
    exact n1 ps (Option.some.inj h1)
  refine ⟨ps, by rw [r _ q1]; exact h1, h2, fun pos cv hc => ?_⟩
  obtain ⟨c, e1, e2⟩ := h3 pos cv hc
  have q2 : c ≠ a := fun z => by
    rw [z, e] at e2
    exact n2 _ _ (Option.some.inj e2)
  exact ⟨c, e1, by rw [r _ q2]; exact e2⟩
theorem lst_code {us : List V} {c : Addr} {q : Str} : HO.lst us ≠ LamX.CodeO c q := fun z => by unfold LamX.CodeO at z; cases z
theorem dK_code {us : List (Key × V)} {c : Addr} {q : Str} : HO.dK us ≠ LamX.CodeO c q := fun z => by unfold LamX.CodeO at z; cases z
end
def RepKey : Vl → Key → Prop
  | .int i, k => k = .inl i
  | .str s, k => k = .inr ⟨s.toArray⟩
  | _, _ => False
def RepKs (Γ : Gm) (L m : List Addr) (H : Hp) : List (Vl × Vl) → List (Key × V) → Prop
  | [], [] => True
  | (a, x) :: r, (k, u) :: s => RepKey a k ∧ RepV Γ L m H x u ∧ RepKs Γ L m H r s
  | _, _ => False
def RepO (Γ : Gm) (L m : List Addr) (H : Hp) : Ob → Addr → Prop
  | .lst xs, a => ∃ us, H a = some (.lst us) ∧ RepL Γ L m H xs us
  | .dct kvs, a => ∃ us, H a = some (.dK us) ∧ RepKs Γ L m H kvs us
  | .ins c xs, a => ∃ dx vs, SlAt H a (Γ.ca c) dx vs ∧ dx ∉ m ∧ dx ∉ L ∧ ∀ (i : Nat) (x : Vl), xs[i]? = some (some x) → ∃ u, vs[i]? = some (some u) ∧ RepV Γ L m H x u
structure RepH (Γ : Gm) (L m : List Addr) (h : Hh) (H : Hp) : Prop where
  len : m.length = h.length
  nd : m.Nodup
  ap : ∀ a ∈ m, a ∉ L
  ob : ∀ (i : Nat) (a : Addr) (o : Ob), m[i]? = some a → h[i]? = some o → RepO Γ L m H o a
  res : ∀ a ∈ L, ∃ us, H a = some (.lst us)
  tb : LamX.Tabs Γ.tabs H
theorem RepKs.map {Γ : Gm} {L m L1 m1 : List Addr} {H H1 : Hp} (f : ∀ x u, RepV Γ L m H x u → RepV Γ L1 m1 H1 x u) : ∀ {kvs : List (Vl × Vl)} {us : List (Key × V)}, RepKs Γ L m H kvs us → RepKs Γ L1 m1 H1 kvs us
  | [], [], _ => trivial
  | (_, _) :: _, (_, _) :: _, h => ⟨h.1, f _ _ h.2.1, RepKs.map f h.2.2⟩
  | [], _ :: _, h => h.elim
  | _ :: _, [], h => h.elim
theorem RepO.there {o : Ob} {a : Addr} (h : RepO Γ L m H o a) : ∃ u, H a = some u ∧ (∀ us, u ≠ .tup us) ∧ (∀ b us, u ≠ .frz b us) ∧ (∀ x, u ≠ .own x) ∧ (∀ ps, u ≠ .tbl ps) ∧ ∀ c q, u ≠ LamX.CodeO c q := by
  cases o with
  | lst xs => obtain ⟨us, e, _⟩ := h; exact ⟨_, e, fun _ z => (nomatch z), fun _ _ z => (nomatch z), fun _ z => (nomatch z), fun _ z => (nomatch z), fun _ _ => lst_code⟩
  | dct kvs => obtain ⟨us, e, _⟩ := h; exact ⟨_, e, fun _ z => (nomatch z), fun _ _ z => (nomatch z), fun _ z => (nomatch z), fun _ z => (nomatch z), fun _ _ => dK_code⟩
  | ins c xs =>
    obtain ⟨dx, vs, e, _⟩ := h
    rcases e.2.2 with e | ⟨_, e⟩
    · exact ⟨_, e, fun _ z => (by unfold SlO at z; cases z), fun _ _ z => (by unfold SlO at z; cases z), fun _ z => (by unfold SlO at z; cases z), fun _ z => (by unfold SlO at z; cases z), fun _ _ => slO_code⟩
    · exact ⟨_, e, fun _ z => (nomatch z), fun _ _ z => (nomatch z), fun _ z => (nomatch z), fun _ z => (nomatch z), fun _ _ z => by unfold LamX.CodeO at z; cases z⟩
theorem RepO.grow {o : Ob} {a : Addr} (g : Grow m H m1 H1) (e : H1 a = H a) (h : RepO Γ L m H o a) : RepO Γ L m1 H1 o a := by
  cases o with
  | lst xs => obtain ⟨us, q, r⟩ := h; exact ⟨us, e.trans q, RepL.grow g r⟩
  | dct kvs => obtain ⟨us, q, r⟩ := h; exact ⟨us, e.trans q, r.map fun _ _ => RepV.grow g⟩
  | ins c xs =>
    obtain ⟨dx, vs, q, n1, n2, f⟩ := h
    refine ⟨dx, vs, ⟨g.own _ _ q.1, q.2.1, ?_⟩, g.out q.1 n1, n2, fun i x hx => ?_⟩
    · rw [e]
      exact q.2.2
    · obtain ⟨u, h1, h2⟩ := f i x hx
      exact ⟨u, h1, h2.grow g⟩
theorem RepO.map {L1 m2 : List Addr} {o : Ob} {a : Addr} (f : ∀ x u, RepV Γ L m H x u → RepV Γ L1 m2 H1 x u) (fl : ∀ xs us, RepL Γ L m H xs us → RepL Γ L1 m2 H1 xs us) (e : H1 a = H a)
    (fs : ∀ C dx vs, SlAt H a C dx vs → dx ∉ m → dx ∉ L → SlAt H1 a C dx vs ∧ dx ∉ m2 ∧ dx ∉ L1) (h : RepO Γ L m H o a) : RepO Γ L1 m2 H1 o a := by
  cases o with
  | lst xs => obtain ⟨us, q, r⟩ := h; exact ⟨us, e.trans q, fl _ _ r⟩
  | dct kvs => obtain ⟨us, q, r⟩ := h; exact ⟨us, e.trans q, r.map f⟩
  | ins c xs =>
    obtain ⟨dx, vs, q, n1, n2, g⟩ := h
    obtain ⟨q', n1', n2'⟩ := fs _ _ _ q n1 n2
    refine ⟨dx, vs, q', n1', n2', fun i x hx => ?_⟩
    obtain ⟨u, h1, h2⟩ := g i x hx
    exact ⟨u, h1, f _ _ h2⟩
theorem RepH.at_ {h : Hh} (r : RepH Γ L m h H) {n : Nat} {a : Addr} {o : Ob} (e : m[n]? = some a) (q : h[n]? = some o) : RepO Γ L m H o a := r.ob n a o e q
theorem RepH.addr {h : Hh} (r : RepH Γ L m h H) {n : Nat} {o : Ob} (q : h[n]? = some o) : ∃ a, m[n]? = some a ∧ RepO Γ L m H o a := by
  have hl := (List.getElem?_eq_some_iff.mp q).1
  rw [← r.len] at hl
  exact ⟨m[n], List.getElem?_eq_getElem hl, r.ob n _ o (List.getElem?_eq_getElem hl) q⟩
theorem RepH.there {h : Hh} (r : RepH Γ L m h H) {a : Addr} (ha : a ∈ m) : ∃ o, H a = some o ∧ (∀ us, o ≠ .tup us) ∧ (∀ b us, o ≠ .frz b us) ∧ (∀ x, o ≠ .own x) ∧ (∀ ps, o ≠ .tbl ps) ∧ ∀ c q, o ≠ LamX.CodeO c q := by
  obtain ⟨i, hi, e⟩ := List.getElem_of_mem ha
  have hl : i < h.length := by rw [← r.len]; exact hi
  exact (r.ob i a h[i] (by rw [← e]; exact List.getElem?_eq_getElem hi) (List.getElem?_eq_getElem hl)).there
theorem RepH.tracked {h : Hh} (r : RepH Γ L m h H) : ∀ x ∈ m, ∃ o, H x = some o := fun x hx => let ⟨o, e, _⟩ := r.there hx; ⟨o, e⟩
theorem Grow.fresh {p : Addr} {o : HO} (hp : H p = none) : Grow m H m (upd H p o) where
  ext := ⟨[], by simp, fun _ h => nomatch h⟩
  keep := fun a u e _ _ => by rw [upd_ne (ne_of_none e hp)]; exact e
  tup := fun a u e => by rw [upd_ne (ne_of_none e hp)]; exact e
  frz := fun a u v e => by rw [upd_ne (ne_of_none e hp)]; exact e
  own := fun a u e => by rw [upd_ne (ne_of_none e hp)]; exact e
  tbl := fun a ps e => ⟨ps, by rw [upd_ne (ne_of_none e hp)]; exact e⟩
theorem RepH.fresh {h : Hh} {p : Addr} {o : HO} (r : RepH Γ L m h H) (hp : H p = none) : RepH Γ L m h (upd H p o) where
  len := r.len
  nd := r.nd
  ap := r.ap
  ob := fun i a u e q => by
    have x := r.ob i a u e q
    obtain ⟨v, hv, _⟩ := x.there
    exact x.grow (Grow.fresh hp) (upd_ne (ne_of_none hv hp))
  res := fun a ha => by
    obtain ⟨us, e⟩ := r.res a ha
    exact ⟨us, by rw [upd_ne (ne_of_none e hp)]; exact e⟩
  tb := tabs_fresh r.tb hp
theorem Grow.alloc {p : Addr} {o : HO} (hp : H p = none) : Grow m H (m ++ [p]) (upd H p o) where
  ext := ⟨[p], rfl, fun a h => by rw [List.mem_singleton.mp h]; exact hp⟩
  keep := fun a u e _ _ => by rw [upd_ne (ne_of_none e hp)]; exact e
  tup := fun a u e => by rw [upd_ne (ne_of_none e hp)]; exact e
  frz := fun a u v e => by rw [upd_ne (ne_of_none e hp)]; exact e
  own := fun a u e => by rw [upd_ne (ne_of_none e hp)]; exact e
  tbl := fun a ps e => ⟨ps, by rw [upd_ne (ne_of_none e hp)]; exact e⟩
theorem Grow.write {h : Hh} {n : Nat} {a : Addr} {o : HO} (r : RepH Γ L m h H) (e : m[n]? = some a) : Grow m H m (upd H a o) := by
  have ha : a ∈ m := List.mem_of_getElem? e
  obtain ⟨u, hu, n1, n2, n3, n4, _⟩ := r.there ha
  have ne : ∀ b v, H b = some v → (v ≠ u) → b ≠ a := fun b v hb hv z => by
    rw [z, hu] at hb
    exact hv (Option.some.inj hb).symm
  exact ⟨⟨[], by simp, fun _ h => nomatch h⟩, fun b v hb hn _ => by rw [upd_ne (show b ≠ a from fun z => hn (by rw [z]; exact ha))]; exact hb, fun b us hb => by rw [upd_ne (ne b _ hb (n1 us).symm)]; exact hb,
    fun b v us hb => by rw [upd_ne (ne b _ hb (n2 v us).symm)]; exact hb, fun b x hb => by rw [upd_ne (ne b _ hb (n3 x).symm)]; exact hb, fun b ps hb => ⟨ps, by rw [upd_ne (ne b _ hb (n4 ps).symm)]; exact hb⟩⟩
theorem RepH.write {h : Hh} {n : Nat} {a : Addr} {o : HO} {ob : Ob} (r : RepH Γ L m h H) (e : m[n]? = some a) (hn : n < h.length) (q : RepO Γ L m (upd H a o) ob a) : RepH Γ L m (h.set n ob) (upd H a o) where
  len := by rw [List.length_set]; exact r.len
  nd := r.nd
  ap := r.ap
  ob := fun i b u e1 e2 => by
    by_cases hi : i = n
    · subst hi
      rw [e] at e1
      cases e1
      rw [List.getElem?_set_self hn] at e2
      cases e2
      exact q
    · rw [List.getElem?_set_ne (Ne.symm hi)] at e2
      have nb : b ≠ a := fun z => hi (by
        subst z
        have h1 := (List.getElem?_eq_some_iff.mp e1)
        have h2 := (List.getElem?_eq_some_iff.mp e)
        exact (List.getElem_inj r.nd).mp (h1.2.trans h2.2.symm))
      exact (r.ob i b u e1 e2).grow (Grow.write r e) (upd_ne nb)
  res := fun b hb => by
    obtain ⟨us, z⟩ := r.res b hb
    exact ⟨us, by rw [upd_ne (show b ≠ a from fun w => r.ap a (List.mem_of_getElem? e) (by rw [← w]; exact hb))]; exact z⟩
  tb := by
    obtain ⟨u, hu, _, _, _, n4, n5⟩ := r.there (List.mem_of_getElem? e)
    exact tabs_but r.tb hu n4 n5 fun b n => upd_ne n
theorem RepH.moved {h : Hh} {D : Addr} {xs : List Vl} {us : List V} (r : RepH Γ (D :: L) m h H) (nD : D ∉ m) (nL : D ∉ L) (e : H D = some (.lst us)) (q : RepL Γ (D :: L) m H xs us) : RepH Γ L (m ++ [D]) (h ++ [.lst xs]) H where
  len := by rw [List.length_append, List.length_append, r.len]; rfl
  nd := by
    rw [List.nodup_append]
    refine ⟨r.nd, by simp, fun a ha b hb z => ?_⟩
    rw [List.mem_singleton.mp hb] at z
    exact nD (z ▸ ha)
  ap := fun a ha => by
    rcases List.mem_append.mp ha with ha | ha
    · exact fun z => r.ap a ha (List.mem_cons_of_mem _ z)
    · rw [List.mem_singleton.mp ha]
      exact nL
  ob := fun i a o e1 e2 => by
    by_cases hi : i < m.length
    · rw [List.getElem?_append_left hi] at e1
      rw [List.getElem?_append_left (by rw [← r.len]; exact hi)] at e2
      refine (r.ob i a o e1 e2).map (fun _ _ => RepV.moved) (fun _ _ => RepL.moved) rfl (fun C dx vs s n1 n2 => ⟨s, fun z => ?_, fun z => n2 (List.mem_cons_of_mem _ z)⟩)
      rcases List.mem_append.mp z with z | z
      · exact n1 z
      · exact n2 (List.mem_cons.mpr (.inl (List.mem_singleton.mp z)))
    · have hm : i = m.length := by
        have := (List.getElem?_eq_some_iff.mp e1).1
        rw [List.length_append, List.length_singleton] at this
        omega
      subst hm
      rw [List.getElem?_append_right (Nat.le_refl _), Nat.sub_self] at e1
      rw [r.len, List.getElem?_append_right (Nat.le_refl _), Nat.sub_self] at e2
      cases e1
      cases e2
      exact ⟨us, e, q.moved⟩
  res := fun a ha => r.res a (List.mem_cons_of_mem _ ha)
  tb := r.tb
theorem RepH.joined {h : Hh} {D : Addr} (r : RepH Γ (D :: L) m h H) : RepH Γ L m h H where
  len := r.len
  nd := r.nd
  ap := fun a ha z => r.ap a ha (List.mem_cons_of_mem _ z)
  ob := fun i a o e1 e2 => (r.ob i a o e1 e2).map (fun _ _ => RepV.joined) (fun _ _ => RepL.joined) rfl fun C dx vs s n1 n2 => ⟨s, n1, fun z => n2 (List.mem_cons_of_mem _ z)⟩
  res := fun a ha => r.res a (List.mem_cons_of_mem _ ha)
  tb := r.tb
theorem RepH.reserve {h : Hh} {D : Addr} {us : List V} (r : RepH Γ L m h H) (hD : H D = none) : RepH Γ (D :: L) m h (upd H D (.lst us)) where
  len := r.len
  nd := r.nd
  ap := fun a ha z => by
    rcases List.mem_cons.mp z with z | z
    · obtain ⟨o, e⟩ := r.tracked a ha
      exact ne_of_none e hD z
    · exact r.ap a ha z
  ob := fun i a o e1 e2 => by
    have x := r.ob i a o e1 e2
    obtain ⟨v, hv, _⟩ := x.there
    refine x.map (fun x u z => (z.apart hD).grow (Grow.fresh hD)) (fun xs us z => (z.apart hD).grow (Grow.fresh hD)) (upd_ne (ne_of_none hv hD)) (fun C dx vs s n1 n2 => ⟨⟨?_, s.2.1, ?_⟩, n1, fun z => ?_⟩)
    · rw [upd_ne (ne_of_none s.1 hD)]
      exact s.1
    · rcases s.2.2 with e | ⟨e1, e⟩
      · exact .inl (by rw [upd_ne (ne_of_none e hD)]; exact e)
      · exact .inr ⟨e1, by rw [upd_ne (ne_of_none e hD)]; exact e⟩
    · rcases List.mem_cons.mp z with z | z
      · exact ne_of_none s.1 hD z
      · exact n2 z
  res := fun a ha => by
    rcases List.mem_cons.mp ha with z | z
    · exact ⟨us, by rw [z, upd_same]⟩
    · obtain ⟨ws, e⟩ := r.res a z
      exact ⟨ws, by rw [upd_ne (ne_of_none e hD)]; exact e⟩
  tb := tabs_fresh r.tb hD
end
end Mi
set_option Elab.async false
set_option linter.all false
set_option maxRecDepth 100000
set_option maxHeartbeats 4000000
namespace Mi
open PySem PySem.Spec PyProof.Rows L2
section
variable {Γ : Gm} {L m t : List Addr} {H : Hp}
theorem not_mem_left {a : Addr} (h : a ∉ m ++ t) : a ∉ m := fun z => h (List.mem_append_left _ z)
mutual
theorem RepV.shrink : ∀ {x : Vl} {v : V}, wfV m.length x = true → RepV Γ L (m ++ t) H x v → RepV Γ L m H x v
  | .non, _, _, h => h
  | .bl _, _, _, h => h
  | .int _, _, _, h => h
  | .str _, _, _, h => h
  | .tup _, _, w, h => by
    obtain ⟨a, us, e, q, r⟩ := h
    exact ⟨a, us, e, q, RepL.shrink w r⟩
  | .lst _, _, w, h => by
    obtain ⟨a, us, e, q, n, n2, r⟩ := h
    exact ⟨a, us, e, q, not_mem_left n, n2, RepL.shrink w r⟩
  | .scr _, _, w, h => by
    obtain ⟨a, us, e, q, r⟩ := h
    exact ⟨a, us, e, q, RepL.shrink w r⟩
  | .ins _ _, _, w, h => by
    obtain ⟨a, dx, vs, us, e, q, n1, n2, n3, n4, f, r⟩ := h
    exact ⟨a, dx, vs, us, e, q, not_mem_left n1, n2, not_mem_left n3, n4, f, RepL.shrink w r⟩
  | .dct _, _, _, h => by
    obtain ⟨z, a, e, q, n, n2⟩ := h
    exact ⟨z, a, e, q, not_mem_left n, n2⟩
  | .ref n, _, w, h => by
    obtain ⟨a, e, q⟩ := h
    rw [List.getElem?_append_left (of_decide_eq_true (show decide (n < m.length) = true from w))] at q
    exact ⟨a, e, q⟩
  | .fn _, _, _, h => h
  | .clo _, _, _, h => h.elim
theorem RepL.shrink : ∀ {xs : List Vl} {vs : List V}, wfL m.length xs = true → RepL Γ L (m ++ t) H xs vs → RepL Γ L m H xs vs
  | [], [], _, _ => trivial
  | x :: xs, _ :: _, w, h => by
    unfold wfL at w
    split at w
    · rename_i w1
      exact ⟨RepV.shrink w1 h.1, RepL.shrink w h.2⟩
    · cases w
  | [], _ :: _, _, h => h.elim
  | _ :: _, [], _, h => h.elim
end
theorem RepKs.shrink : ∀ {kvs : List (Vl × Vl)} {us : List (Key × V)}, wfK m.length kvs = true → RepKs Γ L (m ++ t) H kvs us → RepKs Γ L m H kvs us
  | [], [], _, _ => trivial
  | (a, x) :: _, (_, _) :: _, w, h => by
    unfold wfK at w
    split at w
    · split at w
      · rename_i w1
        exact ⟨h.1, RepV.shrink w1 h.2.1, RepKs.shrink w h.2.2⟩
      · cases w
    · cases w
  | [], _ :: _, _, h => h.elim
  | _ :: _, [], _, h => h.elim
theorem wfF_get : ∀ {xs : List (Option Vl)} {n0 i : Nat} {x : Vl}, wfF n0 xs = true → xs[i]? = some (some x) → wfV n0 x = true
  | [], _, _, _, _, e => by simp at e
  | none :: r, n0, 0, x, w, e => by simp at e
  | none :: r, n0, i + 1, x, w, e => wfF_get (xs := r) (i := i) w (by simpa using e)
  | some y :: r, n0, 0, x, w, e => by
    unfold wfF at w
    split at w
    · rename_i w1
      simp at e
      subst e
      exact w1
    · cases w
  | some y :: r, n0, i + 1, x, w, e => by
    unfold wfF at w
    split at w
    · exact wfF_get (xs := r) (i := i) w (by simpa using e)
    · cases w
theorem RepO.shrink {o : Ob} {a : Addr} (w : wfO m.length o = true) (h : RepO Γ L (m ++ t) H o a) : RepO Γ L m H o a := by
  cases o with
  | lst xs => obtain ⟨us, e, r⟩ := h; exact ⟨us, e, RepL.shrink w r⟩
  | dct kvs => obtain ⟨us, e, r⟩ := h; exact ⟨us, e, RepKs.shrink w r⟩
  | ins c xs =>
    obtain ⟨dx, vs, q, n1, n2, f⟩ := h
    refine ⟨dx, vs, q, not_mem_left n1, n2, fun i x hx => ?_⟩
    obtain ⟨u, h1, h2⟩ := f i x hx
    exact ⟨u, h1, RepV.shrink (wfF_get w hx) h2⟩
theorem wfH_get : ∀ {h : Hh} {n0 i : Nat} {o : Ob}, wfH n0 h = true → h[i]? = some o → wfO n0 o = true
  | [], _, _, _, _, e => by simp at e
  | x :: r, n0, 0, o, w, e => by
    unfold wfH at w
    split at w
    · rename_i w1
      simp at e
      subst e
      exact w1
    · cases w
  | x :: r, n0, i + 1, o, w, e => by
    unfold wfH at w
    split at w
    · exact wfH_get (h := r) (i := i) w (by simpa using e)
    · cases w
theorem RepH.shrink {h : Hh} (r : RepH Γ L (m ++ t) h H) (w : wfH m.length (h.take m.length) = true) : RepH Γ L m (h.take m.length) H where
  len := by
    have := r.len
    rw [List.length_append] at this
    rw [List.length_take]
    omega
  nd := (List.nodup_append.mp r.nd).1
  ap := fun a ha => r.ap a (List.mem_append_left _ ha)
  ob := fun i a o e1 e2 => by
    have hi := (List.getElem?_eq_some_iff.mp e1).1
    refine RepO.shrink (wfH_get w e2) (r.ob i a o (by rw [List.getElem?_append_left hi]; exact e1) ?_)
    rw [List.getElem?_take] at e2
    rw [if_pos hi] at e2
    exact e2
  res := r.res
  tb := r.tb
end
end Mi
set_option Elab.async false
set_option linter.all false
set_option maxRecDepth 100000
set_option maxHeartbeats 4000000
namespace Mi
open PySem L2
def okV (Γ : Gm) (L m : List Addr) (H : Hp) (h : Hh) (v : Vl) (Q : VK) : Prop := ∀ m' H' u, Grow m H m' H' → RepH Γ L m' h H' → RepV Γ L m' H' v u → Q u H'
section
variable {Γ : Gm} {L m : List Addr} {H : Hp} {h : Hh} {v : Vl} {Q : VK}
theorem okV.now {u : V} (k : okV Γ L m H h v Q) (r : RepH Γ L m h H) (e : RepV Γ L m H v u) : Q u H := k m H u (Grow.refl m H) r e
theorem okV.new {p : Addr} {o : HO} {u : V} (k : okV Γ L m H h v Q) (r : RepH Γ L m h H) (hp : H p = none) (e : RepV Γ L m (upd H p o) v u) : Q u (upd H p o) := k m _ u (Grow.fresh hp) (r.fresh hp) e
theorem RepL.grow' {m' : List Addr} {H' : Hp} {xs : List Vl} {us : List V} (g : Grow m H m' H') (r : RepL Γ L m H xs us) : RepL Γ L m' H' xs us := RepL.grow g r
theorem okV.newT {p : Addr} {xs : List Vl} {us : List V} (k : okV Γ L m H h (.tup xs) Q) (r : RepH Γ L m h H) (hp : H p = none) (e : RepL Γ L m H xs us) : Q (.ref p) (upd H p (.tup us)) :=
  k.new r hp ⟨p, us, rfl, .inl (.inl upd_same), RepL.grow (Grow.fresh hp) e⟩
theorem RepH.out {p : Addr} (r : RepH Γ L m h H) (hp : H p = none) : p ∉ m ∧ p ∉ L := by
  refine ⟨fun z => ?_, fun z => ?_⟩
  · obtain ⟨o, e⟩ := r.tracked p z
    rw [hp] at e
    cases e
  · obtain ⟨us, e⟩ := r.res p z
    rw [hp] at e
    cases e
theorem okV.newL {p : Addr} {xs : List Vl} {us : List V} (k : okV Γ L m H h (.lst xs) Q) (r : RepH Γ L m h H) (hp : H p = none) (e : RepL Γ L m H xs us) : Q (.ref p) (upd H p (.lst us)) :=
  k.new r hp ⟨p, us, rfl, upd_same, (r.out hp).1, (r.out hp).2, RepL.grow (Grow.fresh hp) e⟩
end
def bo : BO → Operator
  | .add => .Add | .sub => .Sub | .mul => .Mult | .fdiv => .FloorDiv | .mod => .Mod | .pow => .Pow | .shl => .LShift | .shr => .RShift | .and => .BitAnd | .or => .BitOr | .xor => .BitXor
theorem natOf_some {i : Int} {n : Nat} (e : natOf i = some n) : i = (n : Int) := by
  cases i with
  | ofNat k => cases Option.some.inj e; rfl
  | negSucc k => cases e
theorem line_eq : line = sizeLine := by rw [sizeLine_eq]; rfl
theorem intOp {X : Cx} (o : BO) {i j k : Int} (e : binI o i j = some k) {t u : Tok} {Q : Value → Shared → Prop} {E : Value → Shared → Prop} {s : Shared} (h : Q (.int k s.toks) { s with toks := s.toks + 1 }) :
    wpAny (model X.prog X.w) X.A (binaryOp (bo o) (.int i t) (.int j u)) Q E s ∧ wpAny (model X.prog X.w) X.A (inplaceOp (bo o) (.int i t) (.int j u)) Q E s := by
  cases o with
  | add => cases Option.some.inj e; exact ⟨PyProof.Rows.add_int h, PyProof.Rows.iadd_int h⟩
  | sub => cases Option.some.inj e; exact ⟨PyProof.Rows.sub_int h, PyProof.Rows.isub_int h⟩
  | mul =>
    have e' : (if i.natAbs.log2 + j.natAbs.log2 < 1000000 ∨ (-18446744073709551616 < i ∧ i < 18446744073709551616) ∨ (-18446744073709551616 < j ∧ j < 18446744073709551616) then some (i * j) else none) = some k := e
    split at e'
    · rename_i hc
      cases Option.some.inj e'
      have hm : IntMulOk i j := by
        rcases hc with hc | hc
        · exact CMulW.ok (i := i) (j := j) hc
        · exact CMul.ok (show (-(2 ^ 64) < i ∧ i < 2 ^ 64) ∨ (-(2 ^ 64) < j ∧ j < 2 ^ 64) by omega)
      exact ⟨PyProof.Rows.mul_int h hm, PyProof.Rows.imul_int h hm⟩
    · cases e'
  | fdiv =>
    have e' : (if 0 < j then (if j.natAbs.log2 < 9000 then some (i / j) else none) else none) = some k := e
    split at e'
    · rename_i h1
      split at e'
      · rename_i h2
        cases Option.some.inj e'
        rw [← Int.fdiv_eq_ediv_of_nonneg i (by omega)] at h
        exact ⟨PyProof.Rows.floordiv_int (by omega) h (.inl (PyProof.noPylong_of_log2 h2)), PyProof.Rows.ifloordiv_int (by omega) h (.inl (PyProof.noPylong_of_log2 h2))⟩
      · cases e'
    · cases e'
  | mod =>
    have e' : (if 0 < j then some (i % j) else none) = some k := e
    split at e'
    · rename_i h1
      cases Option.some.inj e'
      rw [← Int.fmod_eq_emod_of_nonneg i (by omega)] at h
      exact ⟨PyProof.Rows.mod_int' (by omega) h, PyProof.Rows.imod_int (by omega) h⟩
    · cases e'
  | pow =>
    have e' : (match natOf j with
      | some m => if (i.natAbs.log2 + 1) * m < 100000 then some (i ^ m) else none
      | none => none) = some k := e
    split at e'
    · rename_i m hm
      obtain rfl := natOf_some hm
      split at e'
      · rename_i hc
        cases Option.some.inj e'
        have hb : (Builtin.Int.intBits i : Int) * (m : Int) ≤ 2 ^ 27 := by
          have h1 : Builtin.Int.intBits i ≤ i.natAbs.log2 + 1 := by
            unfold Builtin.Int.intBits
            split <;> omega
          have h2 : Builtin.Int.intBits i * m ≤ (i.natAbs.log2 + 1) * m := Nat.mul_le_mul_right _ h1
          have h3 : ((Builtin.Int.intBits i * m : Nat) : Int) ≤ 100000 := by omega
          rw [Int.natCast_mul] at h3
          exact Int.le_trans h3 (by decide)
        exact ⟨PyProof.Rows.pow_int (by omega) hb h, PyProof.Rows.ipow_int (by omega) hb h⟩
      · cases e'
    · cases e'
  | shl =>
    have e' : (match natOf j with
      | some m => if i.natAbs.log2 + m < 100000 then some (i * 2 ^ m) else none
      | none => none) = some k := e
    split at e'
    · rename_i m hm
      obtain rfl := natOf_some hm
      split at e'
      · rename_i hc
        cases Option.some.inj e'
        have hb : (Builtin.Int.intBits i : Int) + (m : Int) ≤ 2 ^ 27 := by
          have h1 : Builtin.Int.intBits i ≤ i.natAbs.log2 + 1 := by
            unfold Builtin.Int.intBits
            split <;> omega
          have h3 : ((Builtin.Int.intBits i + m : Nat) : Int) ≤ 100001 := by omega
          rw [Int.natCast_add] at h3
          exact Int.le_trans h3 (by decide)
        exact ⟨PyProof.Rows.lshift_int (by omega) hb h, PyProof.Rows.ilshift_int (by omega) hb h⟩
      · cases e'
    · cases e'
  | shr =>
    have e' : (match natOf j with
      | some m => some (i / 2 ^ m)
      | none => none) = some k := e
    split at e'
    · rename_i m hm
      obtain rfl := natOf_some hm
      cases Option.some.inj e'
      have h' : Q (.int (i.fdiv (2 ^ (m : Int).toNat)) s.toks) { s with toks := s.toks + 1 } := by
        rw [Int.fdiv_eq_ediv_of_nonneg i (two_pow_nn _)]
        exact h
      exact ⟨PyProof.Rows.rshift_int (by omega) h', PyProof.Rows.irshift_int (by omega) h'⟩
    · cases e'
  | and =>
    have e' : (match natOf i with
      | some a => match natOf j with
        | some b => some (Int.ofNat (a &&& b))
        | none => none
      | none => none) = some k := e
    split at e'
    · rename_i a ha
      obtain rfl := natOf_some ha
      split at e'
      · rename_i b hb
        obtain rfl := natOf_some hb
        cases Option.some.inj e'
        have h' : Q (.int (Builtin.bitAnd (a : Int) (b : Int)) s.toks) { s with toks := s.toks + 1 } := by
          rw [PyProof.Rows.bitAnd_pp (by omega) (by omega)]
          exact h
        exact ⟨PyProof.Rows.and_int h', PyProof.Rows.iand_int h'⟩
      · cases e'
    · cases e'
  | or =>
    have e' : (match natOf i with
      | some a => match natOf j with
        | some b => some (Int.ofNat (a ||| b))
        | none => none
      | none => none) = some k := e
    split at e'
    · rename_i a ha
      obtain rfl := natOf_some ha
      split at e'
      · rename_i b hb
        obtain rfl := natOf_some hb
        cases Option.some.inj e'
        have h' : Q (.int (Builtin.bitOr (a : Int) (b : Int)) s.toks) { s with toks := s.toks + 1 } := by
          rw [Bits.bitOr_pp (by omega) (by omega)]
          exact h
        exact ⟨PyProof.Rows.or_int h', PyProof.Rows.ior_int h'⟩
      · cases e'
    · cases e'
  | xor =>
    have e' : (match natOf i with
      | some a => match natOf j with
        | some b => some (Int.ofNat (a ^^^ b))
        | none => none
      | none => none) = some k := e
    split at e'
    · rename_i a ha
      obtain rfl := natOf_some ha
      split at e'
      · rename_i b hb
        obtain rfl := natOf_some hb
        cases Option.some.inj e'
        have h' : Q (.int (Builtin.bitXor (a : Int) (b : Int)) s.toks) { s with toks := s.toks + 1 } := by
          rw [Bits.bitXor_pp (by omega) (by omega)]
          exact h
        exact ⟨PyProof.Rows.xor_int h', PyProof.Rows.ixor_int h'⟩
      · cases e'
    · cases e'
def rV (Γ : Gm) (f : Hh → Vl → Vl → Option Vl) : R2 := fun x y H Q => ∃ L m h a b v, RepH Γ L m h H ∧ RepV Γ L m H a x ∧ RepV Γ L m H b y ∧ f h a b = some v ∧ okV Γ L m H h v Q
theorem rep_flat {xs : List Vl} {us : List V} {Γ : Gm} {L m : List Addr} {H : Hp} (r : RepL Γ L m H xs us) : ∀ k : Nat, RepL Γ L m H (List.replicate k xs).flatten (List.replicate k us).flatten
  | 0 => trivial
  | k + 1 => by
    rw [List.replicate_succ, List.replicate_succ, List.flatten_cons, List.flatten_cons]
    exact r.append (rep_flat r k)
theorem strs_app (a b : List Nat) : (⟨a.toArray⟩ : Str) ++ (⟨b.toArray⟩ : Str) = ⟨(a ++ b).toArray⟩ := by
  show (⟨a.toArray ++ b.toArray⟩ : Str) = _
  rw [List.append_toArray]
theorem RepL.nil_iff {Γ : Gm} {L m : List Addr} {H : Hp} {xs : List Vl} {us : List V} (r : RepL Γ L m H xs us) : xs = [] ↔ us = [] := by
  have := r.length
  constructor
  · intro e
    subst e
    exact List.eq_nil_of_length_eq_zero this.symm
  · intro e
    subst e
    exact List.eq_nil_of_length_eq_zero this
theorem op_binV {X : Cx} {Γ : Gm} (C : X.K = Γ.K) (o : BO) : OpR X (binaryOp (bo o)) (rV Γ (binV o)) := by
  intro pins s σ H x y v u Q I rx ry hq
  obtain ⟨L, m, h, a, b, z, rh, ra, rb, e, k⟩ := hq
  have ls := line_eq
  unfold binV at e
  split at e
  · rename_i i j
    have e1 : x = .int i := ra
    have e2 : y = .int j := rb
    subst e1 e2
    obtain ⟨t, rfl⟩ := rx
    obtain ⟨t', rfl⟩ := ry
    split at e
    · rename_i k' hk
      cases Option.some.inj e
      exact (intOp o hk ⟨.int k', H, I.tok _, ⟨_, rfl⟩, k.now rh rfl⟩).1
    · cases e
  · rename_i i j
    have e1 : x = .str ⟨i.toArray⟩ := ra
    have e2 : y = .str ⟨j.toArray⟩ := rb
    split at e
    · split at e
      · rename_i hz
        cases Option.some.inj e
        refine op_add_str pins s σ H x y v u Q I rx ry ⟨_, _, e1, e2, ?_, ?_⟩
        · show i.toArray.size + j.toArray.size ≤ sizeLine
          rw [← ls]
          simpa using hz
        · rw [strs_app]
          exact k.now rh rfl
      · cases e
    · cases e
  · rename_i i j
    obtain ⟨a1, us, e1, q1, r1⟩ := ra
    obtain ⟨a2, ws, e2, q2, r2⟩ := rb
    split at e
    · split at e
      · rename_i hz
        cases Option.some.inj e
        have l1 := r1.length
        have l2 := r2.length
        refine op_catA pins s σ H x y v u Q I rx ry ⟨a1, a2, us, ws, e1, e2, by rw [C]; exact q1, by rw [C]; exact q2, by rw [← l1, ← l2, ← ls]; exact hz, fun n => ?_, fun n n2 => ?_, fun n n2 p hp => ?_⟩
        · have := r1.nil_iff.mpr n
          subst this
          exact k.now rh ⟨a2, ws, rfl, q2, r2⟩
        · have := r2.nil_iff.mpr n2
          subst this
          rw [List.append_nil] at k
          exact k.now rh ⟨a1, us, rfl, q1, r1⟩
        · exact k.newT rh hp (r1.append r2)
      · cases e
    · cases e
  · rename_i i j
    obtain ⟨a1, us, e1, q1, r1⟩ := ra
    have e2 : y = .int j := rb
    split at e
    · split at e
      · split at e
        · split at e
          · split at e
            · cases e
            · rename_i h1 h2 h3 h4
              cases Option.some.inj e
              have l1 := r1.length
              refine op_repT pins s σ H x y v u Q I rx ry ⟨a1, j, us, e1, e2, by rw [C]; exact q1, fun n => h4 ?_, h1, h2, by rw [← l1]; exact h3, fun p hp => ?_⟩
              · rw [r1.nil_iff.mpr n]
                rfl
              · exact k.newT rh hp (rep_flat r1 _)
          · cases e
        · cases e
      · cases e
    · cases e
  · cases e
theorem op_augV {X : Cx} {Γ : Gm} (o : BO) : OpR X (inplaceOp (bo o)) (rV Γ (augV o)) := by
  intro pins s σ H x y v u Q I rx ry hq
  obtain ⟨L, m, h, a, b, z, rh, ra, rb, e, k⟩ := hq
  have ls := line_eq
  unfold augV at e
  split at e
  · rename_i i j
    have e1 : x = .int i := ra
    have e2 : y = .int j := rb
    subst e1 e2
    obtain ⟨t, rfl⟩ := rx
    obtain ⟨t', rfl⟩ := ry
    split at e
    · rename_i k' hk
      cases Option.some.inj e
      exact (intOp o hk ⟨.int k', H, I.tok _, ⟨_, rfl⟩, k.now rh rfl⟩).2
    · cases e
  · rename_i i j
    have e1 : x = .str ⟨i.toArray⟩ := ra
    have e2 : y = .str ⟨j.toArray⟩ := rb
    split at e
    · split at e
      · rename_i hz
        cases Option.some.inj e
        refine iop_add_str pins s σ H x y v u Q I rx ry ⟨_, _, e1, e2, ?_, ?_⟩
        · show i.toArray.size + j.toArray.size ≤ sizeLine
          rw [← ls]
          simpa using hz
        · rw [strs_app]
          exact k.now rh rfl
      · cases e
    · cases e
  · cases e
def okN (Γ : Gm) (L m : List Addr) (H : Hp) (h : Hh) (xs : List Vl) (Q : VK) : Prop :=
  ∀ m' H' D us, Grow m H m' H' → H D = none → D ∉ m' → D ∉ L → H' D = some (.lst us) → RepL Γ (D :: L) m' H' xs us → RepH Γ (D :: L) m' h H' → Q (.ref D) H'
theorem okN.new {Γ : Gm} {L m : List Addr} {H : Hp} {h : Hh} {xs : List Vl} {Q : VK} (k : okN Γ L m H h xs Q) (r : RepH Γ L m h H) {p : Addr} {us : List V} (hp : H p = none) (e : RepL Γ L m H xs us) : Q (.ref p) (upd H p (.lst us)) :=
  k m _ p us (Grow.fresh hp) hp (r.out hp).1 (r.out hp).2 upd_same ((e.apart hp).grow' (Grow.fresh hp)) (r.reserve hp)
def rN (Γ : Gm) (f : Hh → Vl → Vl → Option (List Vl)) : R2 := fun x y H Q => ∃ L m h a b xs, RepH Γ L m h H ∧ RepV Γ L m H a x ∧ RepV Γ L m H b y ∧ f h a b = some xs ∧ okN Γ L m H h xs Q
theorem lstOf_rep {Γ : Gm} {L m : List Addr} {H : Hp} {h : Hh} {a : Vl} {xs : List Vl} {x : V} (rh : RepH Γ L m h H) (r : RepV Γ L m H a x) (e : lstOf h a = some xs) : ∃ p us, x = .ref p ∧ H p = some (.lst us) ∧ RepL Γ L m H xs us := by
  unfold lstOf at e
  split at e
  · cases Option.some.inj e
    obtain ⟨p, us, e1, q, _, _, rr⟩ := r
    exact ⟨p, us, e1, q, rr⟩
  · rename_i n
    obtain ⟨p, e1, q⟩ := r
    split at e
    · rename_i ys hy
      cases Option.some.inj e
      obtain ⟨us, e2, rr⟩ := rh.at_ q hy
      exact ⟨p, us, e1, e2, rr⟩
    · cases e
  · cases e
theorem seqOf_rep {Γ : Gm} {L m : List Addr} {H : Hp} {h : Hh} {a : Vl} {xs : List Vl} {x : V} (rh : RepH Γ L m h H) (r : RepV Γ L m H a x) (e : seqOf h a = some xs) : ∃ p us, x = .ref p ∧ (SqL Γ.K H p us ∨ SqT Γ.K H p us) ∧ RepL Γ L m H xs us := by
  unfold seqOf at e
  split at e
  · cases Option.some.inj e
    obtain ⟨p, us, e1, q, rr⟩ := r
    exact ⟨p, us, e1, .inr q, rr⟩
  · cases Option.some.inj e
    obtain ⟨p, us, e1, q, _, _, rr⟩ := r
    exact ⟨p, us, e1, .inl (SqL.of q), rr⟩
  · cases Option.some.inj e
    obtain ⟨p, us, e1, q, rr⟩ := r
    refine ⟨p, us, e1, .inl ?_, rr⟩
    rcases q with ⟨o, q⟩ | q
    · exact .inl (.inr ⟨o, q⟩)
    · exact .inr q
  · rename_i n
    obtain ⟨p, e1, q⟩ := r
    split at e
    · rename_i ys hy
      cases Option.some.inj e
      obtain ⟨us, e2, rr⟩ := rh.at_ q hy
      exact ⟨p, us, e1, .inl (SqL.of e2), rr⟩
    · cases e
  · cases e
theorem op_catV {X : Cx} {Γ : Gm} : OpR X (binaryOp .Add) (rN Γ catV) := by
  intro pins s σ H x y v u Q I rx ry hq
  obtain ⟨L, m, h, a, b, z, rh, ra, rb, e, k⟩ := hq
  unfold catV at e
  split at e
  · rename_i xs hx
    split at e
    · rename_i ys hy
      split at e
      · rename_i hz
        cases Option.some.inj e
        obtain ⟨p, us, e1, q1, r1⟩ := lstOf_rep rh ra hx
        obtain ⟨p2, ws, e2, q2, r2⟩ := lstOf_rep rh rb hy
        have l1 := r1.length
        have l2 := r2.length
        exact op_cat pins s σ H x y v u Q I rx ry ⟨p, p2, us, ws, e1, e2, q1, q2, by rw [← l1, ← l2, ← line_eq]; exact hz, fun D hD => k.new rh hD (r1.append r2)⟩
      · cases e
    · cases e
  · cases e
theorem op_repV {X : Cx} {Γ : Gm} : OpR X (binaryOp .Mult) (rN Γ repV) := by
  intro pins s σ H x y v u Q I rx ry hq
  obtain ⟨L, m, h, a, b, z, rh, ra, rb, e, k⟩ := hq
  unfold repV at e
  split at e
  · rename_i xs hx
    split at e
    · rename_i j
      have e2 : y = .int j := rb
      split at e
      · split at e
        · split at e
          · rename_i h1 h2 h3
            cases Option.some.inj e
            obtain ⟨p, us, e1, q1, r1⟩ := lstOf_rep rh ra hx
            have l1 := r1.length
            exact op_rep pins s σ H x y v u Q I rx ry ⟨p, j, us, e1, e2, q1, by omega, by omega, by rw [← l1, ← line_eq]; exact h1, fun D hD => k.new rh hD (rep_flat r1 _)⟩
          · cases e
        · cases e
      · cases e
    · cases e
  · cases e
end Mi
set_option Elab.async false
set_option linter.all false
set_option maxRecDepth 100000
set_option maxHeartbeats 4000000
namespace Mi
open PySem L2
mutual
def toPy : Vl → PyData
  | .non => .none
  | .bl b => .bool b
  | .int i => .int i
  | .str s => .str ⟨s.toArray⟩
  | .lst xs => .list (toPyL xs)
  | .tup xs => .tuple (toPyL xs)
  | _ => .none
def toPyL : List Vl → List PyData
  | [] => []
  | x :: r => toPy x :: toPyL r
end
theorem str_beq (x y : List Nat) : ((⟨x.toArray⟩ : Str) == (⟨y.toArray⟩ : Str)) = (x == y) := by
  rw [Bool.eq_iff_iff, beq_iff_eq, beq_iff_eq]
  constructor
  · intro e
    injection e with e
    exact congrArg Array.toList e
  · intro e
    rw [e]
mutual
theorem eqV_py : ∀ (a b : Vl) (n k : Nat), pl a n = true → pl b k = true → eqV a b = PyData.eqv (toPy a) (toPy b)
  | .non, b, n, k, _, h => by cases b <;> simp_all [eqV, toPy, PyData.eqv, pl]
  | .bl _, b, n, k, _, h => by cases b <;> simp_all [eqV, toPy, PyData.eqv, pl]
  | .int _, b, n, k, _, h => by cases b <;> simp_all [eqV, toPy, PyData.eqv, pl]
  | .str s, b, n, k, _, h => by
    cases b with
    | str t =>
      show (s == t) = ((⟨s.toArray⟩ : Str) == (⟨t.toArray⟩ : Str))
      exact (str_beq s t).symm
    | _ => simp_all [eqV, toPy, PyData.eqv, pl]
  | .lst xs, b, n, k, g, h => by
    cases b with
    | lst ys =>
      cases n with
      | zero => simp [pl] at g
      | succ n =>
        cases k with
        | zero => simp [pl] at h
        | succ k =>
          show eqL xs ys = PyData.eqvAll (toPyL xs) (toPyL ys)
          exact eqL_py xs ys n k g h
    | _ => simp_all [eqV, toPy, PyData.eqv, pl]
  | .tup xs, b, n, k, g, h => by
    cases b with
    | tup ys =>
      cases n with
      | zero => simp [pl] at g
      | succ n =>
        cases k with
        | zero => simp [pl] at h
        | succ k =>
          show eqL xs ys = PyData.eqvAll (toPyL xs) (toPyL ys)
          exact eqL_py xs ys n k g h
    | _ => simp_all [eqV, toPy, PyData.eqv, pl]
  | .scr _, _, _, _, g, _ => by simp [pl] at g
  | .dct _, _, _, _, g, _ => by simp [pl] at g
  | .ins _ _, _, _, _, g, _ => by simp [pl] at g
  | .ref _, _, _, _, g, _ => by simp [pl] at g
  | .fn _, _, _, _, g, _ => by simp [pl] at g
  | .clo _, _, _, _, g, _ => by simp [pl] at g
theorem eqL_py : ∀ (xs ys : List Vl) (n k : Nat), plL xs n = true → plL ys k = true → eqL xs ys = PyData.eqvAll (toPyL xs) (toPyL ys)
  | [], [], _, _, _, _ => rfl
  | [], _ :: _, _, _, _, _ => rfl
  | _ :: _, [], _, _, _, _ => rfl
  | x :: xs, y :: ys, n, k, g, h => by
    have g' : (match pl x n with | true => plL xs n | false => false) = true := g
    have h' : (match pl y k with | true => plL ys k | false => false) = true := h
    split at g'
    · rename_i g1
      split at h'
      · rename_i h1
        have e1 := eqV_py x y n k g1 h1
        have e2 := eqL_py xs ys n k g' h'
        show (match eqV x y with | true => eqL xs ys | false => false) = (PyData.eqv (toPy x) (toPy y) && PyData.eqvAll (toPyL xs) (toPyL ys))
        rw [← e1, ← e2]
        cases eqV x y <;> rfl
      · cases h'
    · cases g'
end
mutual
theorem shape_py : ∀ (a : Vl) (n : Nat), pl a n = true → PyData.canLay0 (toPy a) = true ∧ PyData.depth (toPy a) ≤ n
  | .non, n, _ => ⟨rfl, Nat.zero_le _⟩
  | .bl _, n, _ => ⟨rfl, Nat.zero_le _⟩
  | .int _, n, _ => ⟨rfl, Nat.zero_le _⟩
  | .str s, n, h => by
    refine ⟨?_, Nat.zero_le _⟩
    have h' : s.all (· < 0x110000) = true := h
    show PyData.strOk ⟨s.toArray⟩ = true
    unfold PyData.strOk
    simpa using h'
  | .lst xs, n, h => by
    cases n with
    | zero => simp [pl] at h
    | succ n =>
      obtain ⟨h1, h2⟩ := shapeL_py xs n h
      exact ⟨h1, Nat.succ_le_succ h2⟩
  | .tup xs, n, h => by
    cases n with
    | zero => simp [pl] at h
    | succ n =>
      obtain ⟨h1, h2⟩ := shapeL_py xs n h
      exact ⟨h1, Nat.succ_le_succ h2⟩
  | .scr _, _, g => by simp [pl] at g
  | .dct _, _, g => by simp [pl] at g
  | .ins _ _, _, g => by simp [pl] at g
  | .ref _, _, g => by simp [pl] at g
  | .fn _, _, g => by simp [pl] at g
  | .clo _, _, g => by simp [pl] at g
theorem shapeL_py : ∀ (xs : List Vl) (n : Nat), plL xs n = true → PyData.canLayAll0 (toPyL xs) = true ∧ PyData.depthAll (toPyL xs) ≤ n
  | [], _, _ => ⟨rfl, Nat.zero_le _⟩
  | x :: xs, n, g => by
    have g' : (match pl x n with | true => plL xs n | false => false) = true := g
    split at g'
    · rename_i g1
      obtain ⟨a1, a2⟩ := shape_py x n g1
      obtain ⟨b1, b2⟩ := shapeL_py xs n g'
      refine ⟨?_, ?_⟩
      · show (PyData.canLay0 (toPy x) && PyData.canLayAll0 (toPyL xs)) = true
        rw [a1, b1] <;> rfl
      · show max (PyData.depth (toPy x)) (PyData.depthAll (toPyL xs)) ≤ n
        omega
    · cases g'
end
section
variable {Γ : Gm} {L m : List Addr} {H : Hp}
mutual
theorem dp_py : ∀ {a : Vl} {n : Nat} {v : V}, pl a n = true → RepV Γ L m H a v → Dp Γ.K H v (toPy a)
  | .non, _, _, _, r => by cases (show _ = _ from r); exact .non
  | .bl _, _, _, _, r => by cases (show _ = _ from r); exact .bl _
  | .int _, _, _, _, r => by cases (show _ = _ from r); exact .int _
  | .str _, _, _, _, r => by cases (show _ = _ from r); exact .str _
  | .lst xs, n, v, h, r => by
    cases n with
    | zero => simp [pl] at h
    | succ n =>
      obtain ⟨a, us, e, q, _, _, rr⟩ := r
      subst e
      exact .lst (SqL.of q) (dpL_py h rr)
  | .tup xs, n, v, h, r => by
    cases n with
    | zero => simp [pl] at h
    | succ n =>
      obtain ⟨a, us, e, q, rr⟩ := r
      subst e
      exact .tup q (dpL_py h rr)
  | .scr _, _, _, g, _ => by simp [pl] at g
  | .dct _, _, _, g, _ => by simp [pl] at g
  | .ins _ _, _, _, g, _ => by simp [pl] at g
  | .ref _, _, _, g, _ => by simp [pl] at g
  | .fn _, _, _, g, _ => by simp [pl] at g
  | .clo _, _, _, g, _ => by simp [pl] at g
theorem dpL_py : ∀ {xs : List Vl} {n : Nat} {vs : List V}, plL xs n = true → RepL Γ L m H xs vs → DpAll Γ.K H vs (toPyL xs)
  | [], _, [], _, _ => .nil
  | [], _, _ :: _, _, r => r.elim
  | _ :: _, _, [], _, r => r.elim
  | x :: xs, n, v :: vs, g, r => by
    have g' : (match pl x n with | true => plL xs n | false => false) = true := g
    split at g'
    · rename_i g1
      exact .cons (dp_py g1 r.1) (dpL_py g' r.2)
    · cases g'
end
theorem dp_deref {h : Hh} {a : Vl} {v : V} {n : Nat} (rh : RepH Γ L m h H) (g : pl (deref h a) n = true) (r : RepV Γ L m H a v) : Dp Γ.K H v (toPy (deref h a)) := by
  unfold deref at g ⊢
  split at g
  · rename_i k
    obtain ⟨p, e, q⟩ := r
    subst e
    split at g
    · rename_i xs hx
      obtain ⟨us, e2, rr⟩ := rh.at_ q hx
      cases n with
      | zero => simp [pl] at g
      | succ n => exact .lst (SqL.of e2) (dpL_py g rr)
    · simp [pl] at g
  · exact dp_py g r
end
def rC (Γ : Gm) (f : Hh → Vl → Vl → Option Bool) : R2 := fun x y H Q => ∃ L m h a b c, RepH Γ L m h H ∧ RepV Γ L m H a x ∧ RepV Γ L m H b y ∧ f h a b = some c ∧ Q (.bl c) H
theorem pyEq_some {h : Hh} {x y : Vl} {c : Bool} (e : pyEq h x y = some c) : pl (deref h x) 20 = true ∧ pl (deref h y) 20 = true ∧ c = PyData.eqv (toPy (deref h x)) (toPy (deref h y)) := by
  unfold pyEq at e
  simp only at e
  split at e
  · rename_i h1
    split at e
    · rename_i h2
      exact ⟨h1, h2, by rw [← eqV_py _ _ _ _ h1 h2]; exact (Option.some.inj e).symm⟩
    · cases e
  · cases e
theorem shaped_pl {a : Vl} (h : pl a 20 = true) : SeqAt.shaped (toPy a) = true := by
  obtain ⟨h1, h2⟩ := shape_py a 20 h
  unfold SeqAt.shaped
  rw [h1, decide_eq_true (Nat.le_trans h2 (by decide))] <;> rfl
def co : CO → CmpOp
  | .eq => .Eq | .ne => .NotEq | .lt => .Lt | .le => .LtE | .gt => .Gt | .ge => .GtE | .is => .Is | .isnot => .IsNot | .isin => .In | .notin => .NotIn
theorem op_pyEq {X : Cx} {Γ : Gm} (C : X.K = Γ.K) (hu : X.A.units + 64 < cLine) : OpR X (compareOp .Eq) (rC Γ pyEq) := by
  intro pins s σ H x y v u Q I rx ry hq
  obtain ⟨L, m, h, a, b, c, rh, ra, rb, e, k⟩ := hq
  obtain ⟨p1, p2, rfl⟩ := pyEq_some e
  exact op_eqD hu pins s σ H x y v u Q I rx ry ⟨_, _, by rw [C]; exact dp_deref rh p1 ra, by rw [C]; exact dp_deref rh p2 rb, shaped_pl p1, shaped_pl p2, k⟩
theorem op_pyNe {X : Cx} {Γ : Gm} (C : X.K = Γ.K) (hu : X.A.units + 64 < cLine) : OpR X (compareOp .NotEq) (rC Γ (cmpV .ne)) := by
  intro pins s σ H x y v u Q I rx ry hq
  obtain ⟨L, m, h, a, b, c, rh, ra, rb, e, k⟩ := hq
  have e' : (match pyEq h a b with | some b => some (!b) | none => none) = some c := e
  split at e'
  · rename_i c' hc
    cases Option.some.inj e'
    obtain ⟨p1, p2, rfl⟩ := pyEq_some hc
    exact op_neD hu pins s σ H x y v u Q I rx ry ⟨_, _, by rw [C]; exact dp_deref rh p1 ra, by rw [C]; exact dp_deref rh p2 rb, shaped_pl p1, shaped_pl p2, k⟩
  · cases e'
section
variable {Γ : Gm} {L m : List Addr} {H : Hp}
theorem flat_rep {a : Vl} {v : V} (f : flat a = true) (r : RepV Γ L m H a v) : flatV v = true := by
  cases a with
  | non => cases (show _ = _ from r); rfl
  | bl _ => cases (show _ = _ from r); rfl
  | int _ => cases (show _ = _ from r); rfl
  | str _ => cases (show _ = _ from r); rfl
  | _ => simp [flat] at f
theorem flat_eq {a b : Vl} {v w : V} (f : flat a = true) (g : flat b = true) (r : RepV Γ L m H a v) (q : RepV Γ L m H b w) : Mi.eqV a b = L2.eqV v w := by
  cases a with
  | non => cases (show _ = _ from r); cases b <;> first | (cases (show _ = _ from q); rfl) | simp [flat] at g
  | bl _ => cases (show _ = _ from r); cases b <;> first | (cases (show _ = _ from q); rfl) | simp [flat] at g
  | int _ => cases (show _ = _ from r); cases b <;> first | (cases (show _ = _ from q); rfl) | simp [flat] at g
  | str s =>
    cases (show _ = _ from r)
    cases b with
    | str t =>
      cases (show _ = _ from q)
      exact (str_beq s t).symm
    | non => cases (show _ = _ from q); rfl
    | bl _ => cases (show _ = _ from q); rfl
    | int _ => cases (show _ = _ from q); rfl
    | _ => simp [flat] at g
  | _ => simp [flat] at f
theorem flat_all : ∀ {xs : List Vl} {us : List V}, xs.all flat = true → RepL Γ L m H xs us → us.all flatV = true
  | [], [], _, _ => rfl
  | [], _ :: _, _, r => r.elim
  | _ :: _, [], _, r => r.elim
  | x :: xs, u :: us, f, r => by
    rw [List.all_cons, Bool.and_eq_true] at f ⊢
    exact ⟨flat_rep f.1 r.1, flat_all f.2 r.2⟩
theorem inB_rep {x : Vl} {v : V} (fx : flat x = true) (rx : RepV Γ L m H x v) : ∀ {xs : List Vl} {us : List V}, xs.all flat = true → RepL Γ L m H xs us → inB x xs = inV v us
  | [], [], _, _ => rfl
  | [], _ :: _, _, r => r.elim
  | _ :: _, [], _, r => r.elim
  | y :: xs, u :: us, f, r => by
    rw [List.all_cons, Bool.and_eq_true] at f
    have ih := inB_rep fx rx f.2 r.2
    have e := flat_eq f.1 fx r.1 rx
    show (match Mi.eqV y x with | true => true | false => inB x xs) = ((u :: us).any fun y => L2.eqV y v)
    rw [List.any_cons, ← e]
    cases Mi.eqV y x with
    | true => rfl
    | false => exact ih
theorem key_rep {a : Vl} {v : V} (f : keyOk a = true) (r : RepV Γ L m H a v) : ∃ k, RepKey a k ∧ v = kV k := by
  cases a with
  | int i => exact ⟨.inl i, rfl, r⟩
  | str s => exact ⟨.inr _, rfl, r⟩
  | _ => simp [keyOk] at f
theorem key_eq {a b : Vl} {k j : Key} (ra : RepKey a k) (rb : RepKey b j) : keyEq a b = decide (k = j) := by
  cases a with
  | int i =>
    cases (show _ = _ from ra)
    cases b with
    | int i' =>
      cases (show _ = _ from rb)
      rw [key_ll] <;> rfl
    | str s =>
      cases (show _ = _ from rb)
      rw [key_lr] <;> rfl
    | _ => exact rb.elim
  | str s =>
    cases (show _ = _ from ra)
    cases b with
    | int i' =>
      cases (show _ = _ from rb)
      rw [key_rl] <;> rfl
    | str t =>
      cases (show _ = _ from rb)
      rw [key_rr]
      show (s == t) = _
      rw [← str_beq s t, Bool.eq_iff_iff, beq_iff_eq, decide_eq_true_iff]
    | _ => exact rb.elim
  | _ => exact ra.elim
theorem dget_rep {k : Vl} {j : Key} (rk : RepKey k j) : ∀ {kvs : List (Vl × Vl)} {us : List (Key × V)}, RepKs Γ L m H kvs us →
    match dget k kvs with
    | some x => ∃ u, valV us j = some u ∧ RepV Γ L m H x u
    | none => valV us j = none
  | [], [], _ => rfl
  | [], _ :: _, r => r.elim
  | _ :: _, [], r => r.elim
  | (a, x) :: r, (b, u) :: s, h => by
    obtain ⟨h1, h2, h3⟩ := h
    have e := key_eq h1 rk
    have ih := dget_rep rk h3
    unfold dget
    cases hb : keyEq a k with
    | true =>
      rw [hb] at e
      have e' : b = j := of_decide_eq_true e.symm
      exact ⟨u, valV_pos e', h2⟩
    | false =>
      rw [hb] at e
      have e' : ¬ b = j := of_decide_eq_false e.symm
      dsimp only
      rw [valV_neg (p := (b, u)) e']
      exact ih
theorem dget_some {k x : Vl} {j : Key} {kvs : List (Vl × Vl)} {us : List (Key × V)} (rk : RepKey k j) (r : RepKs Γ L m H kvs us) (e : dget k kvs = some x) : ∃ u, valV us j = some u ∧ RepV Γ L m H x u := by
  have := dget_rep rk r
  rw [e] at this
  exact this
theorem dget_isSome {k : Vl} {j : Key} {kvs : List (Vl × Vl)} {us : List (Key × V)} (rk : RepKey k j) (r : RepKs Γ L m H kvs us) : (dget k kvs).isSome = (valV us j).isSome := by
  have := dget_rep rk r
  cases e : dget k kvs with
  | none =>
    rw [e] at this
    rw [show valV us j = none from this]
    rfl
  | some x =>
    rw [e] at this
    obtain ⟨u, h, _⟩ := this
    rw [h] <;> rfl
theorem RepKs.append {kvs ks : List (Vl × Vl)} {us ws : List (Key × V)} (a : RepKs Γ L m H kvs us) (b : RepKs Γ L m H ks ws) : RepKs Γ L m H (kvs ++ ks) (us ++ ws) := by
  induction kvs generalizing us with
  | nil => cases us with
    | nil => exact b
    | cons _ _ => exact a.elim
  | cons x xs ih => cases us with
    | nil => exact a.elim
    | cons v vs => exact ⟨a.1, a.2.1, ih a.2.2⟩
theorem drep_rep {k v : Vl} {j : Key} {w : V} (rk : RepKey k j) (rv : RepV Γ L m H v w) : ∀ {kvs : List (Vl × Vl)} {us : List (Key × V)}, RepKs Γ L m H kvs us → RepKs Γ L m H (drep k v kvs) (us.map fun kv => if kv.1 = j then (kv.1, w) else kv)
  | [], [], _ => trivial
  | [], _ :: _, r => r.elim
  | _ :: _, [], r => r.elim
  | (a, x) :: r, (b, u) :: s, h => by
    obtain ⟨h1, h2, h3⟩ := h
    have e := key_eq h1 rk
    have ih := drep_rep rk rv h3
    unfold drep
    rw [List.map_cons]
    cases hb : keyEq a k with
    | true =>
      rw [hb] at e
      have e' : b = j := of_decide_eq_true e.symm
      rw [if_pos e']
      exact ⟨h1, rv, ih⟩
    | false =>
      rw [hb] at e
      have e' : ¬ b = j := of_decide_eq_false e.symm
      rw [if_neg e']
      exact ⟨h1, h2, ih⟩
theorem dput_rep {k v : Vl} {j : Key} {w : V} (rk : RepKey k j) (rv : RepV Γ L m H v w) {kvs : List (Vl × Vl)} {us : List (Key × V)} (r : RepKs Γ L m H kvs us) : RepKs Γ L m H (dput k v kvs) (putK us j w) := by
  have hs := dget_isSome rk r
  unfold dput putK
  rw [valV_any, ← hs]
  split
  · rename_i e
    rw [e, if_pos (show (some _ : Option Vl).isSome = true from rfl)]
    exact drep_rep rk rv r
  · rename_i e
    rw [e, if_neg (show ¬ (none : Option Vl).isSome = true from Bool.false_ne_true)]
    exact r.append ⟨rk, rv, trivial⟩
theorem RepKs.length : ∀ {kvs : List (Vl × Vl)} {us : List (Key × V)}, RepKs Γ L m H kvs us → kvs.length = us.length
  | [], [], _ => rfl
  | [], _ :: _, r => r.elim
  | _ :: _, [], r => r.elim
  | _ :: _, _ :: _, h => congrArg (· + 1) (RepKs.length h.2.2)
end
end Mi
set_option Elab.async false
set_option linter.all false
set_option maxRecDepth 100000
set_option maxHeartbeats 4000000
namespace Mi
open PySem PySem.Spec PyProof.Rows L2
section
variable {Γ : Gm} {L m : List Addr} {H : Hp}
theorem isIn_run {X : Cx} (C : X.K = Γ.K) (hu : X.A.units + 1 < cLine) {neg : Bool} {pins : List (Addr × Obj)} {s : Shared} {σ : L2.St} {x y : V} {v u : Value} {Q : VK} {h : Hh} {a b : Vl} {c : Bool} (I : Inv X pins σ H s) (rx : RelV x v) (ry : RelV y u)
    (rh : RepH Γ L m h H) (ra : RepV Γ L m H a x) (rb : RepV Γ L m H b y) (e : isIn h a b = some c) (k : Q (.bl (if neg then !c else c)) H) : wpAny (model X.prog X.w) X.A (compareOp (if neg then .NotIn else .In) v u) (EP X pins σ Q) X.xe s := by
  have sq : ∀ (p : Addr) (us : List V) (xs : List Vl), y = .ref p → (SqL X.K H p us ∨ SqT X.K H p us) → RepL Γ L m H xs us → (flat a && xs.all flat) = true → c = inB a xs →
      wpAny (model X.prog X.w) X.A (compareOp (if neg then .NotIn else .In) v u) (EP X pins σ Q) X.xe s := fun p us xs e1 e2 rr f ec => by
    rw [Bool.and_eq_true] at f
    have ei := inB_rep f.1 ra f.2 rr
    subst ec
    rw [ei] at k
    cases neg with
    | false => exact op_in_seq pins s σ H x y v u Q I rx ry ⟨p, us, e1, e2, flat_rep f.1 ra, flat_all f.2 rr, k⟩
    | true => exact op_notIn_seq pins s σ H x y v u Q I rx ry ⟨p, us, e1, e2, flat_rep f.1 ra, flat_all f.2 rr, k⟩
  unfold isIn at e
  split at e
  · rename_i n
    obtain ⟨p, e1, q⟩ := rb
    split at e
    · rename_i kvs hk
      split at e
      · rename_i hko
        cases Option.some.inj e
        obtain ⟨us, e2, rr⟩ := rh.at_ q hk
        obtain ⟨j, rk, ex⟩ := key_rep hko ra
        have es := dget_isSome rk rr
        rw [es] at k
        subst e1
        cases ry
        cases neg with
        | false => exact d_in hu I (by rw [ex]; exact DGet.k e2) rx fun s' I' => ⟨.bl _, H, I', rfl, k⟩
        | true => exact d_notIn hu I (by rw [ex]; exact DGet.k e2) rx fun s' I' => ⟨.bl _, H, I', rfl, k⟩
      · cases e
    · rename_i xs hx
      split at e
      · rename_i f
        obtain ⟨us, e2, rr⟩ := rh.at_ q hx
        exact sq p us xs e1 (.inl (SqL.of e2)) rr f (Option.some.inj e).symm
      · cases e
    · cases e
  · rename_i xs
    obtain ⟨p, us, e1, e2, rr⟩ := rb
    split at e
    · rename_i f
      exact sq p us xs e1 (.inr (by rw [C]; exact e2)) rr f (Option.some.inj e).symm
    · cases e
  · rename_i xs
    obtain ⟨p, us, e1, e2, _, _, rr⟩ := rb
    split at e
    · rename_i f
      exact sq p us xs e1 (.inl (SqL.of e2)) rr f (Option.some.inj e).symm
    · cases e
  · cases e
theorem isNon_rep {a : Vl} {x : V} (r : RepV Γ L m H a x) : isNon a = decide (x = .non) := by
  cases a with
  | non => cases (show _ = _ from r); rfl
  | bl _ => cases (show _ = _ from r); rfl
  | int _ => cases (show _ = _ from r); rfl
  | str _ => cases (show _ = _ from r); rfl
  | tup _ => obtain ⟨_, _, rfl, _⟩ := r; rfl
  | lst _ => obtain ⟨_, _, rfl, _⟩ := r; rfl
  | scr _ => obtain ⟨_, _, rfl, _⟩ := r; rfl
  | dct _ => obtain ⟨_, _, rfl, _⟩ := r; rfl
  | ins _ _ => obtain ⟨_, _, _, _, rfl, _⟩ := r; rfl
  | ref _ => obtain ⟨_, rfl, _⟩ := r; rfl
  | fn _ => cases (show _ = _ from r); rfl
  | clo _ => exact r.elim
end
theorem op_cmpV {X : Cx} {Γ : Gm} (C : X.K = Γ.K) (hu : X.A.units + 64 < cLine) (o : CO) : OpR X (compareOp (co o)) (rC Γ (cmpV o)) := by
  cases o with
  | eq => exact op_pyEq C hu
  | ne => exact op_pyNe C hu
  | lt =>
    intro pins s σ H x y v u Q I rx ry hq
    obtain ⟨L, m, h, a, b, c, rh, ra, rb, e, k⟩ := hq
    unfold cmpV at e
    simp only at e
    split at e
    · cases Option.some.inj e
      exact op_lt pins s σ H x y v u Q I rx ry ⟨_, _, ra, rb, k⟩
    · cases e
  | le =>
    intro pins s σ H x y v u Q I rx ry hq
    obtain ⟨L, m, h, a, b, c, rh, ra, rb, e, k⟩ := hq
    unfold cmpV at e
    simp only at e
    split at e
    · cases Option.some.inj e
      exact op_le pins s σ H x y v u Q I rx ry ⟨_, _, ra, rb, k⟩
    · cases e
  | gt =>
    intro pins s σ H x y v u Q I rx ry hq
    obtain ⟨L, m, h, a, b, c, rh, ra, rb, e, k⟩ := hq
    unfold cmpV at e
    simp only at e
    split at e
    · cases Option.some.inj e
      exact op_gt pins s σ H x y v u Q I rx ry ⟨_, _, ra, rb, k⟩
    · cases e
  | ge =>
    intro pins s σ H x y v u Q I rx ry hq
    obtain ⟨L, m, h, a, b, c, rh, ra, rb, e, k⟩ := hq
    unfold cmpV at e
    simp only at e
    split at e
    · cases Option.some.inj e
      exact op_ge pins s σ H x y v u Q I rx ry ⟨_, _, ra, rb, k⟩
    · cases e
  | is =>
    intro pins s σ H x y v u Q I rx ry hq
    obtain ⟨L, m, h, a, b, c, rh, ra, rb, e, k⟩ := hq
    unfold cmpV at e
    simp only at e
    split at e
    · cases Option.some.inj e
      rw [isNon_rep ra] at k
      exact op_isN pins s σ H x y v u Q I rx ry ⟨rb, k⟩
    · cases e
  | isnot =>
    intro pins s σ H x y v u Q I rx ry hq
    obtain ⟨L, m, h, a, b, c, rh, ra, rb, e, k⟩ := hq
    unfold cmpV at e
    simp only at e
    split at e
    · cases Option.some.inj e
      rw [isNon_rep ra] at k
      exact op_notN pins s σ H x y v u Q I rx ry ⟨rb, k⟩
    · cases e
  | isin =>
    intro pins s σ H x y v u Q I rx ry hq
    obtain ⟨L, m, h, a, b, c, rh, ra, rb, e, k⟩ := hq
    exact isIn_run (neg := false) C (by omega) I rx ry rh ra rb e k
  | notin =>
    intro pins s σ H x y v u Q I rx ry hq
    obtain ⟨L, m, h, a, b, c, rh, ra, rb, e, k⟩ := hq
    have e' : (match isIn h a b with | some b => some (!b) | none => none) = some c := e
    split at e'
    · rename_i d hd
      cases Option.some.inj e'
      exact isIn_run (neg := true) C (by omega) I rx ry rh ra rb hd k
    · cases e'
theorem ixN_eq {n : Nat} {i : Int} {j : Nat} (e : Mi.ixN n i = some j) : L2.ixN n i = some j := by
  unfold Mi.ixN at e
  unfold L2.ixN
  cases i with
  | ofNat k =>
    dsimp only at e
    split at e
    · rename_i hk
      rw [if_pos (show (0 : Int) ≤ Int.ofNat k from Int.natCast_nonneg _), if_pos (show (Int.ofNat k : Int) < n from Int.ofNat_lt.mpr hk)]
      exact e
    · cases e
  | negSucc k =>
    dsimp only at e
    split at e
    · rename_i hk
      cases Option.some.inj e
      have h1 : ¬ (0 : Int) ≤ Int.negSucc k := by omega
      have h2 : -(n : Int) ≤ Int.negSucc k := by omega
      rw [if_neg h1, if_pos h2]
      congr 1
      omega
    · cases e
theorem atI_of {n : Nat} {i : Int} {j : Nat} {us : List V} {u : V} (hl : us.length = n) (e : Mi.ixN n i = some j) (h : us[j]? = some u) : atI us i = some u := by
  unfold atI
  rw [hl, ixN_eq e]
  exact h
theorem ix_sub {X : Cx} {Γ : Gm} (C : X.K = Γ.K) (hu : X.A.units + 1 < cLine) : IxR X (rV Γ subV) := by
  intro value slice pins s σ H x y v u Q I rx ry hq hs
  obtain ⟨L, m, h, a, b, z, rh, ra, rb, e, k⟩ := hq
  have sq : ∀ (p : Addr) (us : List V) (xs : List Vl) (i : Int) (j : Nat), x = .ref p → y = .int i → (SqL X.K H p us ∨ SqT X.K H p us) → RepL Γ L m H xs us → Mi.ixN xs.length i = some j → xs[j]? = some z →
      wpAny (model X.prog X.w) X.A (subscriptTail value slice v u) (EP X pins σ Q) X.xe s := fun p us xs i j e1 e2 q rr ej ex => by
    obtain ⟨w, hw, rw'⟩ := rr.get ex
    have ha := atI_of (us := us) rr.length.symm ej hw
    rcases q with q | q
    · exact ix_list value slice pins s σ H x y v u Q I rx ry ⟨p, us, i, w, e1, e2, q, ha, k.now rh rw'⟩ hs
    · exact ix_tup value slice pins s σ H x y v u Q I rx ry ⟨p, us, i, w, e1, e2, q, ha, k.now rh rw'⟩ hs
  have dk : ∀ (p : Addr) (us : List (Key × V)) (kvs : List (Vl × Vl)), x = .ref p → H p = some (.dK us) → RepKs Γ L m H kvs us → keyOk b = true → dget b kvs = some z →
      wpAny (model X.prog X.w) X.A (subscriptTail value slice v u) (EP X pins σ Q) X.xe s := fun p us kvs e1 q rr hko hg => by
    obtain ⟨j, rk, ey⟩ := key_rep hko rb
    obtain ⟨w, hw, rw'⟩ := dget_some rk rr hg
    subst e1
    cases rx
    have g : DGet H p y (some w) := by
      rw [ey, ← hw]
      exact DGet.k q
    exact tail_any (dict_typeIs I g) PySem.F.slot_dict_getitem.lookup (d_getItem hu I g ry fun w' s3 I3 r3 => ⟨w, H, I3, r3, k.now rh rw'⟩) hs
  unfold subV at e
  split at e
  · rename_i i
    split at e
    · rename_i n
      obtain ⟨p, e1, q⟩ := ra
      split at e
      · rename_i xs hx
        split at e
        · rename_i j hj
          obtain ⟨us, e2, rr⟩ := rh.at_ q hx
          exact sq p us xs i j e1 rb (.inl (SqL.of e2)) rr hj e
        · cases e
      · rename_i kvs hk
        obtain ⟨us, e2, rr⟩ := rh.at_ q hk
        exact dk p us kvs e1 e2 rr rfl e
      · cases e
    · rename_i xs
      obtain ⟨p, us, e1, q, rr⟩ := ra
      split at e
      · rename_i j hj
        exact sq p us xs i j e1 rb (.inr (by rw [C]; exact q)) rr hj e
      · cases e
    · rename_i xs
      obtain ⟨p, us, e1, q, _, _, rr⟩ := ra
      split at e
      · rename_i j hj
        exact sq p us xs i j e1 rb (.inl (SqL.of q)) rr hj e
      · cases e
    · rename_i xs
      obtain ⟨p, us, e1, q, rr⟩ := ra
      split at e
      · rename_i j hj
        refine sq p us xs i j e1 rb (.inl ?_) rr hj e
        rcases q with ⟨o, q⟩ | q
        · exact .inl (.inr ⟨o, q⟩)
        · rw [C]
          exact .inr q
      · cases e
    · cases e
  · split at e
    · rename_i n
      obtain ⟨p, e1, q⟩ := ra
      split at e
      · rename_i kvs hk
        obtain ⟨us, e2, rr⟩ := rh.at_ q hk
        exact dk p us kvs e1 e2 rr rfl e
      · cases e
    · cases e
  · cases e
theorem sIx_eq (n d : Nat) (o : Option Int) : Mi.sIx n d o = HT.sIx n d o := by
  cases o with
  | none => rfl
  | some i => cases i with
    | ofNat k =>
      show min k n = HT.sIx n d (some (k : Int))
      rw [HT.sIx_nat]
    | negSucc k =>
      show n - (k + 1) = (if Int.negSucc k < 0 then (Int.negSucc k + (n : Int)).toNat else min (Int.negSucc k).toNat n)
      rw [if_pos (show Int.negSucc k < 0 by omega)]
      omega
section
variable {Γ : Gm} {L m : List Addr} {H : Hp}
theorem RepL.drop {xs : List Vl} {us : List V} (r : RepL Γ L m H xs us) : ∀ k : Nat, RepL Γ L m H (xs.drop k) (us.drop k) := fun k => by
  induction k generalizing xs us with
  | zero => exact r
  | succ k ih => cases xs with
    | nil => cases us with
      | nil => exact trivial
      | cons _ _ => exact r.elim
    | cons x xs => cases us with
      | nil => exact r.elim
      | cons u us => exact ih r.2
theorem RepL.take {xs : List Vl} {us : List V} (r : RepL Γ L m H xs us) : ∀ k : Nat, RepL Γ L m H (xs.take k) (us.take k) := fun k => by
  induction k generalizing xs us with
  | zero => exact trivial
  | succ k ih => cases xs with
    | nil => cases us with
      | nil => exact trivial
      | cons _ _ => exact r.elim
    | cons x xs => cases us with
      | nil => exact r.elim
      | cons u us => exact ⟨r.1, ih r.2⟩
theorem RepL.cut {xs : List Vl} {us : List V} (r : RepL Γ L m H xs us) (lo hi : Option Int) : RepL Γ L m H (cut xs lo hi) (cutV us lo hi) := by
  unfold Mi.cut cutV
  rw [sIx_eq, sIx_eq, r.length]
  exact (r.drop _).take _
end
theorem sl_cut {X : Cx} {Γ : Gm} (C : X.K = Γ.K) : SlR X (fun x lo hi H Q => ∃ L m h a z, RepH Γ L m h H ∧ RepV Γ L m H a x ∧ cutW h a lo hi = some z ∧ okV Γ L m H h z Q) := by
  intro pins s σ H x v vl vu lo hi sl Q I rx hs pl pu hq
  obtain ⟨L, m, h, a, z, rh, ra, e, k⟩ := hq
  have sq : ∀ (p : Addr) (us : List V) (xs : List Vl), x = .ref p → SqL X.K H p us → RepL Γ L m H xs us → z = .lst (cut xs lo hi) → ∃ T id, typeLookup (.type T) "__getitem__" = pure (some (.builtin id)) ∧ s.TypeIs v T ∧ wpAny (model X.prog X.w) X.A (getItem v (.ref sl)) (EP X pins σ Q) X.xe s := fun p us xs e1 q rr ez => by
    subst ez
    exact sl_list pins s σ H x v vl vu lo hi sl Q I rx hs pl pu ⟨p, us, e1, q, fun D hD => k.newL rh hD (rr.cut lo hi)⟩
  unfold cutW at e
  split at e
  · rename_i xs
    obtain ⟨p, us, e1, q, rr⟩ := ra
    cases Option.some.inj e
    refine sl_tupA pins s σ H x v vl vu lo hi sl Q I rx hs pl pu ⟨p, us, e1, by rw [C]; exact q, fun w => ?_, fun w D hD => ?_⟩
    · have ec : cut xs lo hi = xs := by
        unfold Mi.cut
        rw [sIx_eq, sIx_eq, rr.length, w.1, w.2, Nat.sub_zero, List.drop_zero, ← rr.length, List.take_length]
      rw [ec] at k
      exact k.now rh ⟨p, us, rfl, q, rr⟩
    · exact k.newT rh hD (rr.cut lo hi)
  · rename_i xs
    obtain ⟨p, us, e1, q, _, _, rr⟩ := ra
    exact sq p us xs e1 (SqL.of q) rr (Option.some.inj e).symm
  · rename_i xs
    obtain ⟨p, us, e1, q, rr⟩ := ra
    refine sq p us xs e1 ?_ rr (Option.some.inj e).symm
    rcases q with ⟨o, q⟩ | q
    · exact .inl (.inr ⟨o, q⟩)
    · rw [C]
      exact .inr q
  · obtain ⟨p, e1, q⟩ := ra
    split at e
    · rename_i xs hx
      obtain ⟨us, e2, rr⟩ := rh.at_ q hx
      exact sq p us xs e1 (SqL.of e2) rr (Option.some.inj e).symm
    · cases e
  · cases e
theorem sl_cutN {X : Cx} {Γ : Gm} : SlR X (fun x lo hi H Q => ∃ L m h a xs, RepH Γ L m h H ∧ RepV Γ L m H a x ∧ lstOf h a = some xs ∧ okN Γ L m H h (cut xs lo hi) Q) := by
  intro pins s σ H x v vl vu lo hi sl Q I rx hs pl pu hq
  obtain ⟨L, m, h, a, xs, rh, ra, e, k⟩ := hq
  obtain ⟨p, us, e1, q, rr⟩ := lstOf_rep rh ra e
  exact sl_list pins s σ H x v vl vu lo hi sl Q I rx hs pl pu ⟨p, us, e1, SqL.of q, fun D hD => k.new rh hD (rr.cut lo hi)⟩
def okH (Γ : Gm) (L m : List Addr) (H : Hp) (h1 : Hh) (Q : Hp → Prop) : Prop := ∀ H', Grow m H m H' → RepH Γ L m h1 H' → Q H'
theorem RepL.set {Γ : Gm} {L m : List Addr} {H : Hp} {x : Vl} {u : V} (r : RepV Γ L m H x u) {xs : List Vl} {us : List V} (rr : RepL Γ L m H xs us) (j : Nat) : RepL Γ L m H (xs.set j x) (us.set j u) := by
  induction j generalizing xs us with
  | zero => cases xs with
    | nil => cases us with
      | nil => exact trivial
      | cons _ _ => exact rr.elim
    | cons y xs => cases us with
      | nil => exact rr.elim
      | cons w us => exact ⟨r, rr.2⟩
  | succ j ih => cases xs with
    | nil => cases us with
      | nil => exact trivial
      | cons _ _ => exact rr.elim
    | cons y xs => cases us with
      | nil => exact rr.elim
      | cons w us => exact ⟨rr.1, ih rr.2⟩
theorem set_setV {X : Cx} {Γ : Gm} (hu : X.A.units + 1 < cLine) : PSet X (fun o i v H Q => ∃ L m h a b c h1, RepH Γ L m h H ∧ RepV Γ L m H a o ∧ RepV Γ L m H b i ∧ RepV Γ L m H c v ∧ setV h a b c = some h1 ∧ okH Γ L m H h1 Q) := by
  intro pins s σ H o i v ov iv u Q I ro ri rv hq
  obtain ⟨L, m, h, a, b, c, h1, rh, ra, rb, rc, e, k⟩ := hq
  unfold setV at e
  split at e
  · rename_i n
    obtain ⟨p, e1, q⟩ := ra
    split at e
    · rename_i xs hx
      split at e
      · rename_i j
        split at e
        · rename_i i' hi
          cases Option.some.inj e
          obtain ⟨us, e2, rr⟩ := rh.at_ q hx
          refine set_list pins s σ H o i v ov iv u Q I ro ri rv ⟨p, us, j, i', e1, rb, e2, by rw [← rr.length]; exact ixN_eq hi, ?_⟩
          refine k _ (Grow.write rh q) (rh.write q (List.getElem?_eq_some_iff.mp hx).1 ?_)
          exact ⟨_, upd_same, (rr.set rc i').grow' (Grow.write rh q)⟩
        · cases e
      · cases e
    · rename_i kvs hk
      split at e
      · rename_i hko
        split at e
        · rename_i hz
          cases Option.some.inj e
          obtain ⟨us, e2, rr⟩ := rh.at_ q hk
          obtain ⟨j, rk, ey⟩ := key_rep hko rb
          subst e1 ey
          cases ro
          refine d_setItem hu I (DPut.k (v := v) e2 (by rw [← rr.length, ← line_eq]; exact hz)) ri rv fun s' I' => ⟨_, I', ?_⟩
          refine k _ (Grow.write rh q) (rh.write q (List.getElem?_eq_some_iff.mp hk).1 ?_)
          exact ⟨_, upd_same, (dput_rep rk rc rr).map fun _ _ => RepV.grow (Grow.write rh q)⟩
        · cases e
      · cases e
    · cases e
  · cases e
theorem size_str (s : List Nat) : (⟨s.toArray⟩ : Str).length = s.length := by
  show s.toArray.size = _
  simp
theorem tru_truth {X : Cx} {Γ : Gm} (C : X.K = Γ.K) : TruR X (fun x H Q => ∃ L m h a c, RepH Γ L m h H ∧ RepV Γ L m H a x ∧ truth h a = some c ∧ Q c H) := by
  intro pins s σ H x v Q I rx hq
  obtain ⟨L, m, h, a, c, rh, ra, e, k⟩ := hq
  refine tru_ok pins s σ H x v Q I rx ⟨c, ?_, k⟩
  have em : ∀ {xs : List Vl} {us : List V}, RepL Γ L m H xs us → (!xs.isEmpty) = !us.isEmpty := fun {xs us} r => by
    have := r.length
    cases xs <;> cases us <;> first | rfl | simp at this
  unfold truth at e
  split at e
  · cases (show x = _ from ra); cases e; rfl
  · cases (show x = _ from ra); cases e; rfl
  · cases (show x = _ from ra); cases e; rfl
  · rename_i z
    cases (show x = _ from ra)
    split at e
    · rename_i hz
      cases Option.some.inj e
      refine ⟨by rw [size_str, ← line_eq]; exact hz, ?_⟩
      rw [size_str]
      cases z with
      | nil => rfl
      | cons _ r =>
        show true = (((r.length + 1 : Nat) : Int) != 0)
        rw [bne_iff_ne.mpr (by omega)]
    · cases e
  · obtain ⟨p, us, rfl, q, rr⟩ := ra
    cases Option.some.inj e
    exact .inr (.inl ⟨us, by rw [C]; exact q, em rr⟩)
  · obtain ⟨p, us, rfl, q, _, _, rr⟩ := ra
    cases Option.some.inj e
    exact .inl ⟨us, SqL.of q, em rr⟩
  · obtain ⟨p, us, rfl, q, rr⟩ := ra
    cases Option.some.inj e
    refine .inl ⟨us, ?_, em rr⟩
    rcases q with ⟨o, q⟩ | q
    · exact .inl (.inr ⟨o, q⟩)
    · rw [C]
      exact .inr q
  · obtain ⟨p, rfl, q⟩ := ra
    split at e
    · rename_i xs hx
      cases Option.some.inj e
      obtain ⟨us, e2, rr⟩ := rh.at_ q hx
      exact .inl ⟨us, SqL.of e2, em rr⟩
    · rename_i xs hx
      cases Option.some.inj e
      obtain ⟨us, e2, rr⟩ := rh.at_ q hx
      refine .inr (.inr ⟨us, e2, ?_⟩)
      have := rr.length
      cases xs <;> cases us <;> first | rfl | simp at this
    · cases e
  · cases e
end Mi
set_option Elab.async false
set_option linter.all false
set_option maxRecDepth 100000
set_option maxHeartbeats 4000000
namespace Mi
open PySem PySem.Spec PyProof.Rows L2
section
variable {Γ : Gm} {L m : List Addr} {H : Hp}
theorem ints_rep : ∀ {xs : List Vl} {ns : List Int} {us : List V}, intsOf xs = some ns → RepL Γ L m H xs us → us = ns.map V.int
  | [], ns, [], e, _ => by cases Option.some.inj e; rfl
  | [], _, _ :: _, _, r => r.elim
  | _ :: _, _, [], _, r => r.elim
  | .int i :: xs, ns, u :: us, e, r => by
    have e' : (match intsOf xs with | some l => some (i :: l) | none => none) = some ns := e
    split at e'
    · rename_i l hl
      cases Option.some.inj e'
      rw [ints_rep hl r.2, List.map_cons]
      cases (show u = .int i from r.1)
      rfl
    · cases e'
  | .non :: _, _, _, e, _ => by cases e
  | .bl _ :: _, _, _, e, _ => by cases e
  | .str _ :: _, _, _, e, _ => by cases e
  | .tup _ :: _, _, _, e, _ => by cases e
  | .lst _ :: _, _, _, e, _ => by cases e
  | .scr _ :: _, _, _, e, _ => by cases e
  | .dct _ :: _, _, _, e, _ => by cases e
  | .ins _ _ :: _, _, _, e, _ => by cases e
  | .ref _ :: _, _, _, e, _ => by cases e
  | .fn _ :: _, _, _, e, _ => by cases e
  | .clo _ :: _, _, _, e, _ => by cases e
end
inductive Flags : List V → List Bool → Prop
  | nil : Flags [] []
  | bl {b : Bool} {us : List V} {bs : List Bool} (t : Flags us bs) : Flags (.bl b :: us) (b :: bs)
  | int {i : Int} {us : List V} {bs : List Bool} (t : Flags us bs) : Flags (.int i :: us) ((i != 0) :: bs)
theorem Flags.length {us : List V} {bs : List Bool} (f : Flags us bs) : us.length = bs.length := by
  induction f with
  | nil => rfl
  | bl _ ih => rw [List.length_cons, List.length_cons, ih]
  | int _ ih => rw [List.length_cons, List.length_cons, ih]
def TrV (v : Value) (b : Bool) : Prop := v = .bool b ∨ ∃ (i : Int) (k : Tok), v = .int i k ∧ b = (i != 0)
theorem Flags.val : ∀ {us : List V} {bs : List Bool} {its : List Value}, Flags us bs → Vals us its → ∀ {i : Nat} {v : Value}, its[i]? = some v → TrV v (bs.getD i false)
  | _, _, _, .nil, .nil, i, v, e => by simp at e
  | _, _, _, .bl t, .cons r rr, 0, v, e => by
    cases Option.some.inj e
    cases r
    exact .inl rfl
  | _, _, _, .int t, .cons r rr, 0, v, e => by
    cases Option.some.inj e
    obtain ⟨k, rfl⟩ := r
    exact .inr ⟨_, k, rfl, rfl⟩
  | _, _, _, .bl t, .cons r rr, i + 1, v, e => Flags.val t rr (i := i) e
  | _, _, _, .int t, .cons r rr, i + 1, v, e => Flags.val t rr (i := i) e
theorem truth_flags {prog : Program} {w : World} {A : Around} {bs : List Bool} {its : List Value} (f : ∀ {i : Nat} {v : Value}, its[i]? = some v → TrV v (bs.getD i false)) :
    TruthOf prog w A (fun i v => its.toArray[i]? = some v) (fun i => bs.getD i false) := fun i v s Q E hv hq => by
  have hv' : its[i]? = some v := by simpa using hv
  rcases f hv' with rfl | ⟨j, k, rfl, e⟩
  · exact wpAny_truthy_bool hq
  · have hq' : Q (bs.getD i false) s := hq
    rw [e] at hq'
    exact PySem.P.truthy_int hq'
section
variable {X : Cx}
def rAnyF (K : PySem.W.Frag) : List V → Hp → VK → Prop := fun vs H Q => ∃ (a : Addr) (us : List V) (bs : List Bool), vs = [V.ref a] ∧ SqL K H a us ∧ Flags us bs ∧ Q (.bl (bs.any id)) H
def rAllF (K : PySem.W.Frag) : List V → Hp → VK → Prop := fun vs H Q => ∃ (a : Addr) (us : List V) (bs : List Bool), vs = [V.ref a] ∧ SqL K H a us ∧ Flags us bs ∧ Q (.bl (bs.all id)) H
theorem cr_anyF (hc : X.calm = true) : CallR X (.builtin "any") (rAnyF X.K) := by
  intro pins s σ H vs us Q I r h
  obtain ⟨a, vs, bs, rfl, hs, hf, q⟩ := h
  obtain ⟨its, rv, hl, _⟩ := I.list hs
  rw [Vals.ref1 r]
  have hn : its.toArray.size = bs.length := by rw [List.size_toArray, ← rv.length, hf.length]
  refine call_any_walk (iter_any hl.isList fun s₂ e2 st hne => ?_)
  subst e2
  refine ⟨_, _, _, _, _, _, _, rfl, Walks.list (A := X.A.in1) (I.ok.hd hc) _ a hne its.toArray, st, truth_flags (fun e => hf.val rv e), fun h' tk hk => ?_⟩
  refine ⟨.bl _, H, I.kept fun b o eo => hk b o (fun hmem => ?_) (Heap.get?_push_of_some _ eo), ?_, q⟩
  · rcases List.mem_cons.mp hmem with e1 | hmem
    · exact absurd (e1 ▸ Heap.lt_size eo) (Nat.lt_irrefl _)
    · cases hmem
  · show Value.bool _ = Value.bool _
    rw [← L2.any_range, hn]
theorem cr_allF (hc : X.calm = true) : CallR X (.builtin "all") (rAllF X.K) := by
  intro pins s σ H vs us Q I r h
  obtain ⟨a, vs, bs, rfl, hs, hf, q⟩ := h
  obtain ⟨its, rv, hl, _⟩ := I.list hs
  rw [Vals.ref1 r]
  have hn : its.toArray.size = bs.length := by rw [List.size_toArray, ← rv.length, hf.length]
  refine call_all_walk (iter_any hl.isList fun s₂ e2 st hne => ?_)
  subst e2
  refine ⟨_, _, _, _, _, _, _, rfl, Walks.list (A := X.A.in1) (I.ok.hd hc) _ a hne its.toArray, st, truth_flags (fun e => hf.val rv e), fun h' tk hk => ?_⟩
  refine ⟨.bl _, H, I.kept fun b o eo => hk b o (fun hmem => ?_) (Heap.get?_push_of_some _ eo), ?_, q⟩
  · rcases List.mem_cons.mp hmem with e1 | hmem
    · exact absurd (e1 ▸ Heap.lt_size eo) (Nat.lt_irrefl _)
    · cases hmem
  · show Value.bool _ = Value.bool _
    rw [← L2.all_range, hn]
end
section
variable {Γ : Gm} {L m : List Addr} {H : Hp}
theorem bls_rep : ∀ {xs : List Vl} {ns : List Bool} {us : List V}, blsOf xs = some ns → RepL Γ L m H xs us → Flags us ns
  | [], ns, [], e, _ => by cases Option.some.inj e; exact .nil
  | [], _, _ :: _, _, r => r.elim
  | _ :: _, _, [], _, r => r.elim
  | .bl i :: xs, ns, u :: us, e, r => by
    have e' : (match blsOf xs with | some l => some (i :: l) | none => none) = some ns := e
    split at e'
    · rename_i l hl
      cases Option.some.inj e'
      cases (show u = .bl i from r.1)
      exact .bl (bls_rep hl r.2)
    · cases e'
  | .int i :: xs, ns, u :: us, e, r => by
    have e' : (match blsOf xs with | some l => some ((i != 0) :: l) | none => none) = some ns := e
    split at e'
    · rename_i l hl
      cases Option.some.inj e'
      cases (show u = .int i from r.1)
      exact .int (bls_rep hl r.2)
    · cases e'
  | .non :: _, _, _, e, _ => by cases e
  | .str _ :: _, _, _, e, _ => by cases e
  | .tup _ :: _, _, _, e, _ => by cases e
  | .lst _ :: _, _, _, e, _ => by cases e
  | .scr _ :: _, _, _, e, _ => by cases e
  | .dct _ :: _, _, _, e, _ => by cases e
  | .ins _ _ :: _, _, _, e, _ => by cases e
  | .ref _ :: _, _, _, e, _ => by cases e
  | .fn _ :: _, _, _, e, _ => by cases e
  | .clo _ :: _, _, _, e, _ => by cases e
theorem ints_map {l : List Int} : RepL Γ L m H (l.map Vl.int) (l.map V.int) := by
  induction l with
  | nil => exact trivial
  | cons x r ih => exact ⟨rfl, ih⟩
end
theorem sumI_eq : ∀ l : List Int, sumI l = l.sum
  | [] => rfl
  | x :: r => by
    rw [List.sum_cons, ← sumI_eq r]
    rfl
theorem maxI_spec : ∀ {l : List Int} {m : Int}, maxI l = some m → m ∈ l ∧ ∀ y ∈ l, y ≤ m
  | [], _, e => by cases e
  | [x], m, e => by
    cases Option.some.inj e
    exact ⟨List.mem_cons_self, fun y hy => by rw [List.mem_singleton.mp hy]; exact Int.le_refl _⟩
  | x :: z :: r, m, e => by
    have e' : (match maxI (z :: r) with | some m => some (if x ≤ m then m else x) | none => none) = some m := e
    split at e'
    · rename_i k hk
      obtain ⟨h1, h2⟩ := maxI_spec hk
      cases Option.some.inj e'
      split
      · rename_i hx
        exact ⟨List.mem_cons_of_mem _ h1, fun y hy => (List.mem_cons.mp hy).elim (fun q => by rw [q]; exact hx) (h2 y)⟩
      · rename_i hx
        exact ⟨List.mem_cons_self, fun y hy => (List.mem_cons.mp hy).elim (fun q => by rw [q]; exact Int.le_refl _) fun q => by have := h2 y q; omega⟩
    · cases e'
theorem minI_spec : ∀ {l : List Int} {m : Int}, minI l = some m → m ∈ l ∧ ∀ y ∈ l, m ≤ y
  | [], _, e => by cases e
  | [x], m, e => by
    cases Option.some.inj e
    exact ⟨List.mem_cons_self, fun y hy => by rw [List.mem_singleton.mp hy]; exact Int.le_refl _⟩
  | x :: z :: r, m, e => by
    have e' : (match minI (z :: r) with | some m => some (if m ≤ x then m else x) | none => none) = some m := e
    split at e'
    · rename_i k hk
      obtain ⟨h1, h2⟩ := minI_spec hk
      cases Option.some.inj e'
      split
      · rename_i hx
        exact ⟨List.mem_cons_of_mem _ h1, fun y hy => (List.mem_cons.mp hy).elim (fun q => by rw [q]; exact hx) (h2 y)⟩
      · rename_i hx
        exact ⟨List.mem_cons_self, fun y hy => (List.mem_cons.mp hy).elim (fun q => by rw [q]; exact Int.le_refl _) fun q => by have := h2 y q; omega⟩
    · cases e'
theorem insI_perm (x : Int) : ∀ l : List Int, (insI x l).Perm (x :: l)
  | [] => .refl _
  | y :: r => by
    unfold insI
    split
    · exact .refl _
    · exact ((insI_perm x r).cons y).trans (.swap x y r)
theorem insI_sorted (x : Int) : ∀ {l : List Int}, l.Pairwise (· ≤ ·) → (insI x l).Pairwise (· ≤ ·)
  | [], _ => by simp [insI]
  | y :: r, h => by
    unfold insI
    split
    · rename_i hx
      exact .cons (fun z hz => (List.mem_cons.mp hz).elim (fun q => by rw [q]; exact hx) fun q => Int.le_trans hx ((List.pairwise_cons.mp h).1 z q)) h
    · rename_i hx
      refine .cons (fun z hz => ?_) (insI_sorted x (List.pairwise_cons.mp h).2)
      rcases List.mem_cons.mp ((insI_perm x r).mem_iff.mp hz) with q | q
      · rw [q]; omega
      · exact (List.pairwise_cons.mp h).1 z q
theorem sortI_perm : ∀ l : List Int, (sortI l).Perm l
  | [] => .refl _
  | x :: r => (insI_perm x (sortI r)).trans ((sortI_perm r).cons x)
theorem sortI_sorted : ∀ l : List Int, (sortI l).Pairwise (· ≤ ·)
  | [] => .nil
  | x :: r => insI_sorted x (sortI_sorted r)
theorem sorted_one : ∀ {a b : List Int}, a.Perm b → a.Pairwise (· ≤ ·) → b.Pairwise (· ≤ ·) → a = b
  | [], b, p, _, _ => (List.Perm.nil_eq p)
  | x :: a, [], p, _, _ => by have := p.length_eq; simp at this
  | x :: a, y :: b, p, h, g => by
    have e : x = y := by
      have h1 : x ∈ y :: b := p.mem_iff.mp List.mem_cons_self
      have h2 : y ∈ x :: a := p.mem_iff.mpr List.mem_cons_self
      have h3 : x ≤ y := (List.mem_cons.mp h2).elim (fun q => by omega) fun q => (List.pairwise_cons.mp h).1 y q
      have h4 : y ≤ x := (List.mem_cons.mp h1).elim (fun q => by omega) fun q => (List.pairwise_cons.mp g).1 x q
      omega
    subst e
    rw [sorted_one ((List.perm_cons x).mp p) (List.pairwise_cons.mp h).2 (List.pairwise_cons.mp g).2]
theorem sortI_one {l ns : List Int} (p : ns.Perm l) (h : ns.Pairwise (· ≤ ·)) : ns = sortI l := sorted_one (p.trans (sortI_perm l).symm) h (sortI_sorted l)
theorem sortI_rev {l ns : List Int} (p : ns.Perm l) (h : ns.Pairwise (· ≥ ·)) : ns = (sortI l).reverse := by
  have e := sortI_one (ns := ns.reverse) ((List.reverse_perm ns).trans p) (List.pairwise_reverse.mpr h)
  rw [← e, List.reverse_reverse]
def rF (Γ : Gm) (b : Bif) : List V → Hp → VK → Prop := fun xs H Q => ∃ L m h as v, RepH Γ L m h H ∧ RepL Γ L m H as xs ∧ bifV b h as = some v ∧ okV Γ L m H h v Q
theorem rep1 {Γ : Gm} {L m : List Addr} {H : Hp} {a : Vl} {xs : List V} (r : RepL Γ L m H [a] xs) : ∃ x, xs = [x] ∧ RepV Γ L m H a x := by
  cases xs with
  | nil => exact r.elim
  | cons x xs => cases xs with
    | nil => exact ⟨x, rfl, r.1⟩
    | cons _ _ => exact r.2.elim
theorem rep2 {Γ : Gm} {L m : List Addr} {H : Hp} {a b : Vl} {xs : List V} (r : RepL Γ L m H [a, b] xs) : ∃ x y, xs = [x, y] ∧ RepV Γ L m H a x ∧ RepV Γ L m H b y := by
  cases xs with
  | nil => exact r.elim
  | cons x xs =>
    obtain ⟨y, e, q⟩ := rep1 r.2
    exact ⟨x, y, by rw [e], r.1, q⟩
theorem rep0 {Γ : Gm} {L m : List Addr} {H : Hp} {xs : List V} (r : RepL Γ L m H [] xs) : xs = [] := by
  cases xs with
  | nil => rfl
  | cons _ _ => exact r.elim
theorem arg1_some {f : Vl → Option Vl} {xs : List Vl} {v : Vl} (e : arg1 f xs = some v) : ∃ a, xs = [a] ∧ f a = some v := by
  unfold arg1 at e
  split at e
  · exact ⟨_, rfl, e⟩
  · cases e
theorem arg2_some {f : Vl → Vl → Option Vl} {xs : List Vl} {v : Vl} (e : arg2 f xs = some v) : ∃ a b, xs = [a, b] ∧ f a b = some v := by
  unfold arg2 at e
  split at e
  · exact ⟨_, _, rfl, e⟩
  · cases e
theorem sqK {X : Cx} {Γ : Gm} (C : X.K = Γ.K) {H : Hp} {p : Addr} {us : List V} (q : SqL Γ.K H p us ∨ SqT Γ.K H p us) : SqL X.K H p us ∨ SqT X.K H p us := by
  rw [C]
  exact q
theorem cb_len {X : Cx} {Γ : Gm} (C : X.K = Γ.K) : CallR X (.builtin "len") (rF Γ .len) := by
  intro pins s σ H xs us Q I r hq
  obtain ⟨L, m, h, as, v, rh, ra, e, k⟩ := hq
  obtain ⟨a, rfl, e1⟩ := arg1_some (show arg1 (lenV h) as = some v from e)
  clear e
  have e := e1
  clear e1
  obtain ⟨x, rfl, rx⟩ := rep1 ra
  have sq : ∀ (xs : List Vl), seqOf h a = some xs → v = .int xs.length → wpAny (model X.prog X.w) X.A (call (.builtin "len") us) (EP X pins σ Q) X.xe s := fun xs ex ev => by
    obtain ⟨p, ws, e2, q, rr⟩ := seqOf_rep rh rx ex
    subst ev
    subst e2
    refine call_len_seq pins s σ H _ us Q I r ⟨p, ws, rfl, sqK C q, ?_⟩
    rw [← rr.length]
    exact k.now rh rfl
  unfold lenV at e
  split at e
  · rename_i z
    cases (show x = _ from rx)
    split at e
    · rename_i hz
      cases Option.some.inj e
      refine call_len_str pins s σ H _ us Q I r ⟨_, rfl, by rw [size_str, ← line_eq]; exact hz, ?_⟩
      rw [size_str]
      exact k.now rh rfl
    · cases e
  · rename_i n
    split at e
    · rename_i ys hy
      refine sq ys ?_ (Option.some.inj e).symm
      unfold seqOf
      dsimp only
      rw [hy]
    · rename_i ys hy
      cases Option.some.inj e
      obtain ⟨p, e1, q⟩ := rx
      obtain ⟨ws, e2, rr⟩ := rh.at_ q hy
      subst e1
      cases r with
      | cons r1 r2 =>
        cases r2
        cases r1
        refine d_len I (.inl e2) fun t s' I' => ⟨.int ws.length, H, I', ⟨t, rfl⟩, ?_⟩
        rw [← rr.length]
        exact k.now rh rfl
    · cases e
  · split at e
    · rename_i l hl
      exact sq l hl (Option.some.inj e).symm
    · cases e
theorem cb_abs {X : Cx} {Γ : Gm} : CallR X (.builtin "abs") (rF Γ .abs) := by
  intro pins s σ H xs us Q I r hq
  obtain ⟨L, m, h, as, v, rh, ra, e, k⟩ := hq
  obtain ⟨a, rfl, e1⟩ := arg1_some (show arg1 absV as = some v from e)
  replace e := e1
  obtain ⟨x, rfl, rx⟩ := rep1 ra
  unfold absV at e
  split at e
  · cases Option.some.inj e
    cases (show x = _ from rx)
    exact call_abs pins s σ H _ us Q I r ⟨_, rfl, k.now rh rfl⟩
  · cases e
theorem cb_max2 {X : Cx} {Γ : Gm} (hc : X.calm = true) : CallR X (.builtin "max") (rF Γ .max2) := by
  intro pins s σ H xs us Q I r hq
  obtain ⟨L, m, h, as, v, rh, ra, e, k⟩ := hq
  obtain ⟨a, b, rfl, e1⟩ := arg2_some (show arg2 max2V as = some v from e)
  replace e := e1
  obtain ⟨x, y, rfl, rx, ry⟩ := rep2 ra
  unfold max2V at e
  split at e
  · cases Option.some.inj e
    cases (show x = _ from rx)
    cases (show y = _ from ry)
    exact call_max2 hc pins s σ H _ us Q I r ⟨_, _, rfl, k.now rh rfl⟩
  · cases e
theorem cb_min2 {X : Cx} {Γ : Gm} (hc : X.calm = true) : CallR X (.builtin "min") (rF Γ .min2) := by
  intro pins s σ H xs us Q I r hq
  obtain ⟨L, m, h, as, v, rh, ra, e, k⟩ := hq
  obtain ⟨a, b, rfl, e1⟩ := arg2_some (show arg2 min2V as = some v from e)
  replace e := e1
  obtain ⟨x, y, rfl, rx, ry⟩ := rep2 ra
  unfold min2V at e
  split at e
  · cases Option.some.inj e
    cases (show x = _ from rx)
    cases (show y = _ from ry)
    exact call_min2 hc pins s σ H _ us Q I r ⟨_, _, rfl, k.now rh rfl⟩
  · cases e
theorem ofInts_some {h : Hh} {f : List Int → Option Int} {x v : Vl} (e : ofInts h f x = some v) : ∃ l ns i, lstOf h x = some l ∧ intsOf l = some ns ∧ f ns = some i ∧ v = .int i := by
  unfold ofInts at e
  split at e
  · rename_i l hl
    split at e
    · rename_i ns hn
      split at e
      · rename_i i hi
        exact ⟨l, ns, i, hl, hn, hi, (Option.some.inj e).symm⟩
      · cases e
    · cases e
  · cases e
theorem ofBls_some {h : Hh} {f : List Bool → Bool} {x v : Vl} (e : ofBls h f x = some v) : ∃ l ns, lstOf h x = some l ∧ blsOf l = some ns ∧ v = .bl (f ns) := by
  unfold ofBls at e
  split at e
  · rename_i l hl
    split at e
    · rename_i ns hn
      exact ⟨l, ns, hl, hn, (Option.some.inj e).symm⟩
    · cases e
  · cases e
theorem cb_maxl {X : Cx} {Γ : Gm} (hc : X.calm = true) : CallR X (.builtin "max") (rF Γ .maxl) := by
  intro pins s σ H xs us Q I r hq
  obtain ⟨L, m, h, as, v, rh, ra, e, k⟩ := hq
  obtain ⟨a, rfl, e1⟩ := arg1_some (show arg1 (ofInts h maxI) as = some v from e)
  replace e := e1
  obtain ⟨x, rfl, rx⟩ := rep1 ra
  obtain ⟨l, ns, i, h1, h2, h3, rfl⟩ := ofInts_some e
  obtain ⟨p, ws, rfl, q, rr⟩ := lstOf_rep rh rx h1
  cases ints_rep h2 rr
  obtain ⟨g1, g2⟩ := maxI_spec h3
  refine cr_max hc pins s σ H _ us Q I r ⟨p, ns, rfl, SqL.of q, List.length_pos_of_mem g1, fun j hj hle => ?_⟩
  have : j = i := by
    have := g2 j hj
    have := hle i g1
    omega
  subst this
  exact k.now rh rfl
theorem cb_minl {X : Cx} {Γ : Gm} (hc : X.calm = true) : CallR X (.builtin "min") (rF Γ .minl) := by
  intro pins s σ H xs us Q I r hq
  obtain ⟨L, m, h, as, v, rh, ra, e, k⟩ := hq
  obtain ⟨a, rfl, e1⟩ := arg1_some (show arg1 (ofInts h minI) as = some v from e)
  replace e := e1
  obtain ⟨x, rfl, rx⟩ := rep1 ra
  obtain ⟨l, ns, i, h1, h2, h3, rfl⟩ := ofInts_some e
  obtain ⟨p, ws, rfl, q, rr⟩ := lstOf_rep rh rx h1
  cases ints_rep h2 rr
  obtain ⟨g1, g2⟩ := minI_spec h3
  refine cr_min hc pins s σ H _ us Q I r ⟨p, ns, rfl, SqL.of q, List.length_pos_of_mem g1, fun j hj hle => ?_⟩
  have : j = i := by
    have := g2 j hj
    have := hle i g1
    omega
  subst this
  exact k.now rh rfl
theorem cb_sum {X : Cx} {Γ : Gm} (C : X.K = Γ.K) (hc : X.calm = true) : CallR X (.builtin "sum") (rF Γ .sum) := by
  intro pins s σ H xs us Q I r hq
  obtain ⟨L, m, h, as, v, rh, ra, e, k⟩ := hq
  obtain ⟨a, rfl, e1⟩ := arg1_some (show arg1 (sumV h) as = some v from e)
  replace e := e1
  obtain ⟨x, rfl, rx⟩ := rep1 ra
  unfold sumV at e
  split at e
  · rename_i l
    split at e
    · rename_i ns h2
      cases e
      obtain ⟨p, ws, rfl, q, rr⟩ := rx
      cases ints_rep h2 rr
      rw [← C] at q
      obtain ⟨its, rv, ⟨o, eo, ec, n, ed⟩, _⟩ := I.tuple q
      rw [Vals.ref1 r]
      obtain ⟨ys, hx⟩ := rv.ints.allInts.items
      have hn : numsOf (intItems ys).toList = ns := by rw [← hx]; exact rv.ints.numsOf
      rw [nums_intItems] at hn
      have ht : s.heap.IsTuple p (intItems ys) := ⟨o, eo, ec, n, by rw [ed]; congr 1⟩
      refine PySem.W.ktm_sumG (I.ok.hd hc) ht fun h' tk t' hk => ⟨.int _, H, I.kept hk, ⟨_, rfl⟩, ?_⟩
      rw [preSum_eq, List.take_of_length_le (by simp), hn, ← sumI_eq]
      exact k.now rh rfl
    · cases e
  · obtain ⟨l, ns, i, h1, h2, h3, rfl⟩ := ofInts_some e
    obtain ⟨p, ws, rfl, q, rr⟩ := lstOf_rep rh rx h1
    cases ints_rep h2 rr
    cases Option.some.inj h3
    refine cr_sum hc pins s σ H _ us Q I r ⟨p, ns, rfl, SqL.of q, ?_⟩
    rw [← sumI_eq]
    exact k.now rh rfl
theorem cb_all {X : Cx} {Γ : Gm} (hc : X.calm = true) : CallR X (.builtin "all") (rF Γ .all) := by
  intro pins s σ H xs us Q I r hq
  obtain ⟨L, m, h, as, v, rh, ra, e, k⟩ := hq
  obtain ⟨a, rfl, e1⟩ := arg1_some (show arg1 (ofBls h fun l => l.all id) as = some v from e)
  replace e := e1
  obtain ⟨x, rfl, rx⟩ := rep1 ra
  obtain ⟨l, ns, h1, h2, rfl⟩ := ofBls_some e
  obtain ⟨p, ws, rfl, q, rr⟩ := lstOf_rep rh rx h1
  exact cr_allF hc pins s σ H _ us Q I r ⟨p, ws, ns, rfl, SqL.of q, bls_rep h2 rr, k.now rh rfl⟩
theorem cb_any {X : Cx} {Γ : Gm} (hc : X.calm = true) : CallR X (.builtin "any") (rF Γ .any) := by
  intro pins s σ H xs us Q I r hq
  obtain ⟨L, m, h, as, v, rh, ra, e, k⟩ := hq
  obtain ⟨a, rfl, e1⟩ := arg1_some (show arg1 (ofBls h fun l => l.any id) as = some v from e)
  replace e := e1
  obtain ⟨x, rfl, rx⟩ := rep1 ra
  obtain ⟨l, ns, h1, h2, rfl⟩ := ofBls_some e
  obtain ⟨p, ws, rfl, q, rr⟩ := lstOf_rep rh rx h1
  exact cr_anyF hc pins s σ H _ us Q I r ⟨p, ws, ns, rfl, SqL.of q, bls_rep h2 rr, k.now rh rfl⟩
theorem cb_int {X : Cx} {Γ : Gm} : CallR X (.type "int") (rF Γ .int) := by
  intro pins s σ H xs us Q I r hq
  obtain ⟨L, m, h, as, v, rh, ra, e, k⟩ := hq
  obtain ⟨a, rfl, e1⟩ := arg1_some (show arg1 intV as = some v from e)
  replace e := e1
  obtain ⟨x, rfl, rx⟩ := rep1 ra
  unfold intV at e
  split at e
  · cases Option.some.inj e
    cases (show x = _ from rx)
    exact call_int1 pins s σ H _ us Q I r (.inl ⟨_, rfl, k.now rh rfl⟩)
  · cases Option.some.inj e
    cases (show x = _ from rx)
    exact call_int1 pins s σ H _ us Q I r (.inr ⟨_, rfl, k.now rh rfl⟩)
  · cases e
theorem cb_tuple {X : Cx} {Γ : Gm} (C : X.K = Γ.K) : CallR X (.type "tuple") (rF Γ .tuple) := by
  intro pins s σ H xs us Q I r hq
  obtain ⟨L, m, h, as, v, rh, ra, e, k⟩ := hq
  obtain ⟨a, rfl, e1⟩ := arg1_some (show arg1 (tupleV h) as = some v from e)
  replace e := e1
  obtain ⟨x, rfl, rx⟩ := rep1 ra
  unfold tupleV at e
  split at e
  · rename_i l hl
    cases Option.some.inj e
    obtain ⟨p, ws, rfl, q, rr⟩ := seqOf_rep rh rx hl
    refine call_tuple_of pins s σ H _ us Q I r ⟨p, ws, rfl, ?_⟩
    rcases q with q | q
    · exact .inl ⟨by rw [C]; exact q, fun D hD => k.newT rh hD rr⟩
    · exact .inr ⟨by rw [C]; exact q, k.now rh ⟨p, ws, rfl, q, rr⟩⟩
  · cases e
theorem cb_list {X : Cx} {Γ : Gm} (C : X.K = Γ.K) : CallR X (.type "list") (fun xs H Q => ∃ L m h a x ys, xs = [x] ∧ RepH Γ L m h H ∧ RepV Γ L m H a x ∧ seqOf h a = some ys ∧ okN Γ L m H h ys Q) := by
  intro pins s σ H xs us Q I r hq
  obtain ⟨L, m, h, a, x, ys, rfl, rh, rx, e, k⟩ := hq
  obtain ⟨p, ws, rfl, q, rr⟩ := seqOf_rep rh rx e
  exact call_list_of pins s σ H _ us Q I r ⟨p, ws, rfl, sqK C q, fun D hD => k.new rh hD rr⟩
theorem cb_sorted {X : Cx} {Γ : Gm} : CallR X (.builtin "sorted") (fun xs H Q => ∃ L m h a x l ns, xs = [x] ∧ RepH Γ L m h H ∧ RepV Γ L m H a x ∧ lstOf h a = some l ∧ intsOf l = some ns ∧ okN Γ L m H h ((sortI ns).map .int) Q) := by
  intro pins s σ H xs us Q I r hq
  obtain ⟨L, m, h, a, x, l, ns, rfl, rh, rx, e, e2, k⟩ := hq
  obtain ⟨p, ws, rfl, q, rr⟩ := lstOf_rep rh rx e
  cases ints_rep e2 rr
  refine cr_sortedI pins s σ H _ us Q I r ⟨p, ns, rfl, SqL.of q, fun zs D pm so hD => ?_⟩
  have := sortI_one pm so
  subst this
  exact k.new rh hD ints_map
theorem cb_sortedR {X : Cx} {Γ : Gm} : CallRK X (.builtin "sorted") [Str.ofString "reverse"] (fun xs zs H Q => ∃ L m h a x l ns, xs = [x] ∧ zs = [.bl true] ∧ RepH Γ L m h H ∧ RepV Γ L m H a x ∧ lstOf h a = some l ∧ intsOf l = some ns ∧ okN Γ L m H h ((sortI ns).reverse.map .int) Q) := by
  intro pins s σ H xs zs us ws Q I r rz hq
  obtain ⟨L, m, h, a, x, l, ns, rfl, rfl, rh, rx, e, e2, k⟩ := hq
  obtain ⟨p, vs, rfl, q, rr⟩ := lstOf_rep rh rx e
  cases ints_rep e2 rr
  refine cr_sortedRev (b := true) pins s σ H _ _ us ws Q I r rz ⟨p, ns, rfl, rfl, SqL.of q, fun zs D pm so hD => ?_⟩
  have := sortI_rev pm (show zs.Pairwise (· ≥ ·) from so)
  subst this
  exact k.new rh hD ints_map
def rM (Γ : Gm) (t : Mth) : V → List V → Hp → VK → Prop := fun x xs H Q => ∃ L m h a as v h1, RepH Γ L m h H ∧ RepV Γ L m H a x ∧ RepL Γ L m H as xs ∧ mthV t h a as = .ok v h1 ∧ okV Γ L m H h1 v Q
theorem R.ok_inj {α : Type} {a b : α} {h k : Hh} (e : R.ok a h = R.ok b k) : a = b ∧ h = k := by
  injection e with e1 e2
  exact ⟨e1, e2⟩
theorem okV.wrote {Γ : Gm} {L m : List Addr} {H : Hp} {h : Hh} {n : Nat} {p : Addr} {xs xs' : List Vl} {us' : List V} {v : Vl} {u : V} {Q : VK} (rh : RepH Γ L m h H) (q : m[n]? = some p) (hx : h[n]? = some (.lst xs)) (k : okV Γ L m H (h.set n (.lst xs')) v Q) (rr : RepL Γ L m H xs' us') (rv : RepV Γ L m H v u) : Q u (upd H p (.lst us')) :=
  have g := Grow.write (o := .lst us') rh q
  k m _ u g (rh.write q (List.getElem?_eq_some_iff.mp hx).1 ⟨_, upd_same, rr.grow' g⟩) (rv.grow g)
theorem mb_append {X : Cx} {Γ : Gm} : MtR X "list.append" (rM Γ .append) := by
  intro pins s σ H x xs v us Q I rx rxs hq
  obtain ⟨L, m, h, a, as, z, h1, rh, ra, ras, e, k⟩ := hq
  unfold mthV at e
  dsimp only at e
  split at e
  · rename_i b
    obtain ⟨y, rfl, rb⟩ := rep1 ras
    unfold appendV at e
    split at e
    · rename_i n
      obtain ⟨p, rfl, q⟩ := ra
      split at e
      · rename_i l hl
        split at e
        · rename_i hz
          obtain ⟨rfl, rfl⟩ := R.ok_inj e
          obtain ⟨ws, e2, rr⟩ := rh.at_ q hl
          exact mt_append pins s σ H _ _ v us Q I rx rxs ⟨p, ws, y, rfl, rfl, e2, by rw [← rr.length, ← line_eq]; exact hz, k.wrote rh q hl (rr.append ⟨rb, trivial⟩) rfl⟩
        · cases e
      · cases e
    · cases e
  · cases e
theorem mb_extend {X : Cx} {Γ : Gm} : MtR X "list.extend" (rM Γ .extend) := by
  intro pins s σ H x xs v us Q I rx rxs hq
  obtain ⟨L, m, h, a, as, z, h1, rh, ra, ras, e, k⟩ := hq
  unfold mthV at e
  dsimp only at e
  split at e
  · rename_i b
    obtain ⟨y, rfl, rb⟩ := rep1 ras
    unfold extendV at e
    split at e
    · rename_i n
      obtain ⟨p, rfl, q⟩ := ra
      split at e
      · rename_i l hl
        split at e
        · rename_i ys
          split at e
          · rename_i hz
            obtain ⟨rfl, rfl⟩ := R.ok_inj e
            obtain ⟨ws, e2, rr⟩ := rh.at_ q hl
            obtain ⟨p2, ws2, rfl, e3, _, _, rr2⟩ := rb
            exact mt_extend pins s σ H _ _ v us Q I rx rxs ⟨p, p2, ws, ws2, rfl, rfl, e2, e3, by rw [← rr.length, ← rr2.length, ← line_eq]; exact hz, k.wrote rh q hl (rr.append rr2) rfl⟩
          · cases e
        · cases e
      · cases e
    · cases e
  · cases e
theorem RepL.eraseIdx {Γ : Gm} {L m : List Addr} {H : Hp} {xs : List Vl} {us : List V} (r : RepL Γ L m H xs us) (j : Nat) : RepL Γ L m H (xs.eraseIdx j) (us.eraseIdx j) := by
  induction j generalizing xs us with
  | zero => cases xs with
    | nil => cases us with
      | nil => exact trivial
      | cons _ _ => exact r.elim
    | cons y xs => cases us with
      | nil => exact r.elim
      | cons w us => exact r.2
  | succ j ih => cases xs with
    | nil => cases us with
      | nil => exact trivial
      | cons _ _ => exact r.elim
    | cons y xs => cases us with
      | nil => exact r.elim
      | cons w us => exact ⟨r.1, ih r.2⟩
theorem RepL.dropLast {Γ : Gm} {L m : List Addr} {H : Hp} {xs : List Vl} {us : List V} (r : RepL Γ L m H xs us) : RepL Γ L m H xs.dropLast us.dropLast := by
  rw [List.dropLast_eq_take, List.dropLast_eq_take, r.length]
  exact r.take _
theorem mb_pop0 {X : Cx} {Γ : Gm} : MtR X "list.pop" (rM Γ .pop0) := by
  intro pins s σ H x xs v us Q I rx rxs hq
  obtain ⟨L, m, h, a, as, z, h1, rh, ra, ras, e, k⟩ := hq
  unfold mthV at e
  dsimp only at e
  split at e
  · cases rep0 ras
    unfold popV at e
    split at e
    · rename_i n
      obtain ⟨p, rfl, q⟩ := ra
      split at e
      · rename_i l hl
        split at e
        · rename_i y hy
          obtain ⟨rfl, rfl⟩ := R.ok_inj e
          obtain ⟨ws, e2, rr⟩ := rh.at_ q hl
          rw [rr.length] at hy
          obtain ⟨w, hw, rw'⟩ := rr.get hy
          exact mt_pop pins s σ H _ _ v us Q I rx rxs ⟨p, ws, w, rfl, rfl, e2, hw, k.wrote rh q hl rr.dropLast rw'⟩
        · cases e
      · cases e
    · cases e
  · cases e
theorem mb_pop1 {X : Cx} {Γ : Gm} : MtR X "list.pop" (rM Γ .pop1) := by
  intro pins s σ H x xs v us Q I rx rxs hq
  obtain ⟨L, m, h, a, as, z, h1, rh, ra, ras, e, k⟩ := hq
  unfold mthV at e
  dsimp only at e
  split at e
  · rename_i b
    obtain ⟨y, rfl, rb⟩ := rep1 ras
    unfold popAtV at e
    split at e
    · rename_i n
      obtain ⟨p, rfl, q⟩ := ra
      split at e
      · rename_i l hl
        split at e
        · rename_i j
          cases (show y = _ from rb)
          split at e
          · rename_i hj
            split at e
            · rename_i w hw
              obtain ⟨rfl, rfl⟩ := R.ok_inj e
              obtain ⟨ws, e2, rr⟩ := rh.at_ q hl
              obtain ⟨w', hw', rw'⟩ := rr.get hw
              have hlt := (List.getElem?_eq_some_iff.mp hw').1
              refine mt_popAt pins s σ H _ _ v us Q I rx rxs ⟨p, ws, _, j, w', rfl, rfl, e2, ?_, ?_, ?_, hw', k.wrote rh q hl (rr.eraseIdx j) rw'⟩
              · show -(2 ^ 63) ≤ (j : Int)
                omega
              · show (j : Int) < 2 ^ 63
                omega
              · exact seqIndex_of (Int.natCast_nonneg j) (Int.ofNat_lt.mpr hlt)
            · cases e
          · cases e
        · cases e
      · cases e
    · cases e
  · cases e
end Mi
set_option Elab.async false
set_option linter.all false
set_option maxRecDepth 100000
set_option maxHeartbeats 4000000
namespace Mi
open PySem PySem.Spec PyProof.Rows L2
theorem pe_imp {X : Cx} {e : Expr} {t t' : TE} (h : PE X e t) (f : ∀ σ H Q, t' σ H Q → t σ H Q) : PE X e t' := ⟨fun pins s σ H Q I k => h.run pins s σ H Q I (f _ _ _ k)⟩
theorem pt_imp {X : Cx} {e : Expr} {t t' : TT} (h : PT X e t) (f : ∀ σ H Q, t' σ H Q → t σ H Q) : PT X e t' := ⟨fun pins s σ H Q I k => h.run pins s σ H Q I (f _ _ _ k)⟩
theorem pw_imp {X : Cx} {e : Expr} {t t' : TT} (h : PW X e t) (f : ∀ σ H Q, t' σ H Q → t σ H Q) : PW X e t' := ⟨fun wh pins s σ H Q I k => h.run wh pins s σ H Q I (f _ _ _ k)⟩
theorem pa_imp {X : Cx} {e : List Expr} {t t' : TA} (h : PA X e t) (f : ∀ σ H Q, t' σ H Q → t σ H Q) : PA X e t' := ⟨fun p pins s σ H Q I k => h.run p pins s σ H Q I (f _ _ _ k)⟩
theorem ps_imp {X : Cx} {e : Stmt} {t t' : TS} (h : PS X e t) (f : ∀ D σ H, t' D σ H → t D σ H) : PS X e t' := ⟨fun pins s σ H D I k => h.run pins s σ H D I (f _ _ _ k)⟩
theorem pss_imp {X : Cx} {e : List Stmt} {t t' : TS} (h : PSs X e t) (f : ∀ D σ H, t' D σ H → t D σ H) : PSs X e t' := ⟨fun pins s σ H D I k => h.run pins s σ H D I (f _ _ _ k)⟩
theorem pi_imp {X : Cx} {tg e : Expr} {t t' : TI} (h : PI X tg e t) (f : ∀ σ H Q, t' σ H Q → t σ H Q) : PI X tg e t' := ⟨fun pins s σ H Q I k => h.run pins s σ H Q I (f _ _ _ k)⟩
def RepX (Γ : Gm) (L m : List Addr) (H : Hp) (c : Nat) (p : Option Vl) (d : Option Addr) : Prop :=
  match p with
  | none => True
  | some v => ∃ a u, d = some a ∧ H a = some (.xd [(Γ.xf c, u)]) ∧ RepV Γ L m H v u
def okG {α β : Type} (Γ : Gm) (W : WX) (L m : List Addr) (H : Hp) (σ : L2.St) (rel : List Addr → Hp → α → β → Prop) (r : R α) (Q : β → Hp → Prop) : Prop :=
  match r with
  | .ok a h => ∀ m' H' u, Grow m H m' H' → RepH Γ L m' h H' → rel m' H' a u → Q u H'
  | .exc c p h => ∀ m' H' d, Grow m H m' H' → RepH Γ L m' h H' → RepX Γ L m' H' c p d → W (.ref (Γ.xa c)) d σ H'
  | .bad => False
theorem Grow.tr {Γ : Gm} {L m m1 m2 : List Addr} {H H1 H2 : Hp} {h1 : Hh} (a : Grow m H m1 H1) (r : RepH Γ L m1 h1 H1) (b : Grow m1 H1 m2 H2) : Grow m H m2 H2 :=
  a.trans b fun x hx => r.tracked x (a.mem hx)
section
variable {Γ : Gm} {W : WX} {L m : List Addr} {H : Hp} {σ : L2.St}
theorem okG.later {α β : Type} {rel : List Addr → Hp → α → β → Prop} {r : R α} {Q : β → Hp → Prop} (k : okG Γ W L m H σ rel r Q) {m1 : List Addr} {H1 : Hp} {h1 : Hh} (g : Grow m H m1 H1) (rh : RepH Γ L m1 h1 H1) : okG Γ W L m1 H1 σ rel r Q := by
  cases r with
  | ok a h => exact fun m' H' u g' => k m' H' u (g.tr rh g')
  | exc c p h => exact fun m' H' d g' => k m' H' d (g.tr rh g')
  | bad => exact k
theorem okG.bind {α β γ δ : Type} {rel : List Addr → Hp → α → β → Prop} {rel' : List Addr → Hp → γ → δ → Prop} {r : R α} {f : α → Hh → R γ} {Q : δ → Hp → Prop} {Q' : β → Hp → Prop} (k : okG Γ W L m H σ rel' (bnd r f) Q)
    (st : ∀ m1 H1 a h1 u, Grow m H m1 H1 → RepH Γ L m1 h1 H1 → rel m1 H1 a u → okG Γ W L m1 H1 σ rel' (f a h1) Q → Q' u H1) : okG Γ W L m H σ rel r Q' := by
  cases r with
  | ok a h => exact fun m' H' u g rh ru => st m' H' a h u g rh ru (okG.later k g rh)
  | exc c p h => exact k
  | bad => exact k
theorem bnd_bnd {α β γ : Type} (r : R α) (f : α → Hh → R β) (g : β → Hh → R γ) : bnd (bnd r f) g = bnd r fun a h => bnd (f a h) g := by
  cases r <;> rfl
theorem okG.lift {h : Hh} {o : Option Vl} {Q : VK} (k : okG Γ W L m H σ (fun m' H' => RepV Γ L m' H') (lift o h) Q) : ∃ z, o = some z ∧ okV Γ L m H h z Q := by
  cases o with
  | none => exact k.elim
  | some z => exact ⟨z, rfl, k⟩
end
def RepE (Γ : Gm) (L m : List Addr) (H : Hp) (env : Env) (σ : L2.St) : Prop := env.length = σ.length ∧ ∀ (i : Nat) v, env[i]? = some (some v) → ∃ u, σ[i]? = some (some u) ∧ RepV Γ L m H v u
theorem RepE.grow {Γ : Gm} {L m m1 : List Addr} {H H1 : Hp} {env : Env} {σ : L2.St} (g : Grow m H m1 H1) (r : RepE Γ L m H env σ) : RepE Γ L m1 H1 env σ := ⟨r.1, fun i v e => let ⟨u, h1, h2⟩ := r.2 i v e; ⟨u, h1, h2.grow g⟩⟩
structure Cn (X : Cx) (Γ : Gm) (W : WX) : Prop where
  prog : X.prog = Γ.P
  w : X.w = Γ.w
  K : X.K = Γ.K
  mg : X.mg = Γ.mg
  base : X.base = Γ.base
  calm : X.calm = true
  nd : X.N.Nodup
  un : X.A.units + 64 < cLine
  tk : Takes X W
theorem Cn.u1 {X : Cx} {Γ : Gm} {W : WX} (c : Cn X Γ W) : X.A.units + 1 < cLine := Nat.lt_of_le_of_lt (Nat.add_le_add_left (by decide : 1 ≤ 64) _) c.un
section
variable (Γ : Gm) (W : WX)
def tE (ev : Env → Hh → R Vl) : TE := fun σ H Q => ∃ L m h env, RepH Γ L m h H ∧ RepE Γ L m H env σ ∧ okG Γ W L m H σ (fun m' H' => RepV Γ L m' H') (ev env h) Q
def tL (ev : Env → Hh → R (List Vl)) : TA := fun σ H Q => ∃ L m h env, RepH Γ L m h H ∧ RepE Γ L m H env σ ∧ okG Γ W L m H σ (fun m' H' => RepL Γ L m' H') (ev env h) Q
def tB' (ev : Env → Hh → R Bool) : TT := fun σ H Q => ∃ L m h env, RepH Γ L m h H ∧ RepE Γ L m H env σ ∧ okG Γ W L m H σ (fun _ _ (a b : Bool) => a = b) (ev env h) Q
def tO' (ev : Env → Hh → R (Option Int)) : TO := fun σ H Q => ∃ L m h env, RepH Γ L m h H ∧ RepE Γ L m H env σ ∧ okG Γ W L m H σ (fun _ _ (a b : Option Int) => a = b) (ev env h) Q
def okF (L m : List Addr) (H : Hp) (σ : L2.St) (r : R (List Vl)) (Q : VK) : Prop :=
  match r with
  | .ok xs h => okN Γ L m H h xs Q
  | .exc c p h => ∀ m' H' d, Grow m H m' H' → RepH Γ L m' h H' → RepX Γ L m' H' c p d → W (.ref (Γ.xa c)) d σ H'
  | .bad => False
def tF (ev : Env → Hh → R (List Vl)) : TE := fun σ H Q => ∃ L m h env, RepH Γ L m h H ∧ RepE Γ L m H env σ ∧ okF Γ W L m H σ (ev env h) Q
end
def tru (ev : Env → Hh → R Vl) : Env → Hh → R Bool := fun env h => bnd (ev env h) fun x h => lift (truth h x) h
section
variable {Γ : Gm} {W : WX} {L m : List Addr} {H : Hp} {σ : L2.St}
theorem okN.later {h : Hh} {xs : List Vl} {Q : VK} (k : okN Γ L m H h xs Q) {m1 : List Addr} {H1 : Hp} {h1 : Hh} (g : Grow m H m1 H1) (rh : RepH Γ L m1 h1 H1) : okN Γ L m1 H1 h xs Q := fun m' H' D us g' hD n1 n2 e rr rh' => by
  refine k m' H' D us (g.tr rh g') ?_ n1 n2 e rr rh'
  rcases free_back g hD with z | z
  · exact z
  · obtain ⟨o, ho⟩ := rh.tracked D (g.mem z)
    rw [ho] at hD
    cases hD
theorem okF.later {r : R (List Vl)} {Q : VK} (k : okF Γ W L m H σ r Q) {m1 : List Addr} {H1 : Hp} {h h1 : Hh} (r0 : RepH Γ L m h H) (g : Grow m H m1 H1) (rh : RepH Γ L m1 h1 H1) : okF Γ W L m1 H1 σ r Q := by
  cases r with
  | ok a h => exact okN.later k g rh
  | exc c p h => exact fun m' H' d g' => k m' H' d (g.tr rh g')
  | bad => exact k
theorem okF.bind {α β : Type} {rel : List Addr → Hp → α → β → Prop} {r : R α} {f : α → Hh → R (List Vl)} {Q : VK} {Q' : β → Hp → Prop} {h : Hh} (r0 : RepH Γ L m h H) (k : okF Γ W L m H σ (bnd r f) Q)
    (st : ∀ m1 H1 a h1 u, Grow m H m1 H1 → RepH Γ L m1 h1 H1 → rel m1 H1 a u → okF Γ W L m1 H1 σ (f a h1) Q → Q' u H1) : okG Γ W L m H σ rel r Q' := by
  cases r with
  | ok a h => exact fun m' H' u g rh ru => st m' H' a h u g rh ru (okF.later k r0 g rh)
  | exc c p h => exact k
  | bad => exact k
theorem okF.lift {h : Hh} {o : Option (List Vl)} {Q : VK} (k : okF Γ W L m H σ (lift o h) Q) : ∃ z, o = some z ∧ okN Γ L m H h z Q := by
  cases o with
  | none => exact k.elim
  | some z => exact ⟨z, rfl, k⟩
theorem okF.fz {r : R (List Vl)} {Q : VK} {h : Hh} (r0 : RepH Γ L m h H) (k : okG Γ W L m H σ (fun m' H' => RepV Γ L m' H') (bnd r fun xs h => .ok (.lst xs) h) Q) : okF Γ W L m H σ r Q := by
  cases r with
  | ok xs h => exact fun m' H' D us g hD n1 n2 e rr rh => k m' H' (.ref D) g rh.joined ⟨D, us, rfl, e, n1, n2, rr.joined⟩
  | exc c p h => exact k
  | bad => exact k
theorem okF.th {r : R (List Vl)} {Q : VK} {h : Hh} (r0 : RepH Γ L m h H) (k : okG Γ W L m H σ (fun m' H' => RepV Γ L m' H') (bnd r fun xs h => .ok (.ref h.length) (h ++ [.lst xs])) Q) : okF Γ W L m H σ r Q := by
  cases r with
  | ok xs h =>
    refine fun m' H' D us g hD n1 n2 e rr rh => k (m' ++ [D]) H' (.ref D) ⟨?_, g.keep, g.tup, g.frz, g.own, g.tbl⟩ (rh.moved n1 n2 e rr) ⟨D, rfl, ?_⟩
    · obtain ⟨t, e1, f⟩ := g.ext
      refine ⟨t ++ [D], by rw [e1, List.append_assoc], fun a ha => ?_⟩
      rcases List.mem_append.mp ha with z | z
      · exact f a z
      · rw [List.mem_singleton.mp z]
        exact hD
    · rw [← rh.len, List.getElem?_append_right (Nat.le_refl _), Nat.sub_self]
      rfl
  | exc c p h => exact k
  | bad => exact k
end
section
variable {X : Cx} {Γ : Gm} {W : WX} {a b c : Expr} {pos : Pos} {ea eb ec : Env → Hh → R Vl}
theorem s_var {i : Nat} {x : Str} (hN : X.N[i]? = some x) (hv : Vis X.env.scope x) (hd : (x == ("__debug__" : Str)) = false) (hcd : (x == ("__classdict__" : Str)) = false) :
    PE X (.Name x pos) (tE Γ W fun env h => match env[i]? with
      | some (some v) => .ok v h
      | _ => .bad) := by
  refine pe_imp (pe_var hN hv hd hcd) fun σ H Q hq => ?_
  obtain ⟨L, m, h, env, rh, re, k⟩ := hq
  dsimp only at k
  split at k
  · rename_i v hv
    obtain ⟨u, e, r⟩ := re.2 i v hv
    exact ⟨u, e, k m H u (Grow.refl m H) rh r⟩
  · exact k.elim
theorem s_const {v : Vl} {u : V} {e : Expr} (h : PE X e (tC u)) (r : ∀ L m H, RepV Γ L m H v u) : PE X e (tE Γ W fun _ h => .ok v h) := by
  refine pe_imp h fun σ H Q hq => ?_
  obtain ⟨L, m, h, env, rh, re, k⟩ := hq
  exact k m H u (Grow.refl m H) rh (r _ _ _)
theorem s_bin (C : Cn X Γ W) (o : BO) (ha : PE X a (tE Γ W ea)) (hb : PE X b (tE Γ W eb)) :
    PE X (.BinOp a (bo o) b pos) (tE Γ W fun env h => bnd (ea env h) fun x h => bnd (eb env h) fun y h => lift (binV o h x y) h) := by
  refine pe_imp (pe_op (op_binV (Γ := Γ) C.K o) ha hb) fun σ H Q hq => ?_
  obtain ⟨L, m, h, env, rh, re, k⟩ := hq
  refine ⟨L, m, h, env, rh, re, k.bind fun m1 H1 x h1 u g1 rh1 rx k1 => ⟨L, m1, h1, env, rh1, re.grow g1, k1.bind fun m2 H2 y h2 v g2 rh2 ry k2 => ?_⟩⟩
  obtain ⟨z, ez, kz⟩ := k2.lift
  exact ⟨L, m2, h2, x, y, z, rh2, rx.grow g2, ry, ez, kz⟩
theorem s_cat (C : Cn X Γ W) (ha : PE X a (tE Γ W ea)) (hb : PE X b (tE Γ W eb)) :
    PE X (.BinOp a .Add b pos) (tF Γ W fun env h => bnd (ea env h) fun x h => bnd (eb env h) fun y h => lift (catV h x y) h) := by
  refine pe_imp (pe_op (op_catV (Γ := Γ)) ha hb) fun σ H Q hq => ?_
  obtain ⟨L, m, h, env, rh, re, k⟩ := hq
  refine ⟨L, m, h, env, rh, re, okF.bind rh k fun m1 H1 x h1 u g1 rh1 rx k1 => ⟨L, m1, h1, env, rh1, re.grow g1, okF.bind rh1 k1 fun m2 H2 y h2 v g2 rh2 ry k2 => ?_⟩⟩
  obtain ⟨z, ez, kz⟩ := k2.lift
  exact ⟨L, m2, h2, x, y, z, rh2, rx.grow g2, ry, ez, kz⟩
theorem s_rep (C : Cn X Γ W) (ha : PE X a (tE Γ W ea)) (hb : PE X b (tE Γ W eb)) :
    PE X (.BinOp a .Mult b pos) (tF Γ W fun env h => bnd (ea env h) fun x h => bnd (eb env h) fun y h => lift (repV h x y) h) := by
  refine pe_imp (pe_op (op_repV (Γ := Γ)) ha hb) fun σ H Q hq => ?_
  obtain ⟨L, m, h, env, rh, re, k⟩ := hq
  refine ⟨L, m, h, env, rh, re, okF.bind rh k fun m1 H1 x h1 u g1 rh1 rx k1 => ⟨L, m1, h1, env, rh1, re.grow g1, okF.bind rh1 k1 fun m2 H2 y h2 v g2 rh2 ry k2 => ?_⟩⟩
  obtain ⟨z, ez, kz⟩ := k2.lift
  exact ⟨L, m2, h2, x, y, z, rh2, rx.grow g2, ry, ez, kz⟩
def negV : Vl → Hh → R Vl := fun x h => match x with
  | .int i => .ok (.int (-i)) h
  | _ => .bad
theorem s_neg (ha : PE X a (tE Γ W ea)) : PE X (.UnaryOp .USub a pos) (tE Γ W fun env h => bnd (ea env h) negV) := by
  refine pe_imp (pe_un un_neg ha) fun σ H Q hq => ?_
  obtain ⟨L, m, h, env, rh, re, k⟩ := hq
  refine ⟨L, m, h, env, rh, re, k.bind fun m1 H1 x h1 u g1 rh1 rx k1 => ?_⟩
  unfold negV at k1
  split at k1
  · exact ⟨_, rx, k1 m1 H1 _ (Grow.refl _ _) rh1 rfl⟩
  · exact k1.elim
def cmpR (o : CO) (h : Hh) (x y : Vl) : R Vl := match cmpV o h x y with
  | some c => .ok (.bl c) h
  | none => .bad
theorem cmpR_some {L m : List Addr} {H : Hp} {σ : L2.St} {o : CO} {h : Hh} {x y : Vl} {γ δ : Type} {rel : List Addr → Hp → γ → δ → Prop} {f : Vl → Hh → R γ} {Q : δ → Hp → Prop} (k : okG Γ W L m H σ rel (bnd (cmpR o h x y) f) Q) : ∃ c, cmpV o h x y = some c ∧ okG Γ W L m H σ rel (f (.bl c) h) Q := by
  unfold cmpR at k
  split at k
  · rename_i c hc
    exact ⟨c, hc, k⟩
  · exact k.elim
theorem bnd_ok {α : Type} (r : R α) : bnd r (fun a h => .ok a h) = r := by cases r <;> rfl
theorem s_cmp (C : Cn X Γ W) (o : CO) (ha : PE X a (tE Γ W ea)) (hb : PE X b (tE Γ W eb)) (hm : behindInMarks (co o) b = false) :
    PE X (.Compare a [co o] [b] pos) (tE Γ W fun env h => bnd (ea env h) fun x h => bnd (eb env h) fun y h => cmpR o h x y) := by
  refine pe_imp (pe_cmpR (op_cmpV (Γ := Γ) C.K C.un o) ha hb hm) fun σ H Q hq => ?_
  obtain ⟨L, m, h, env, rh, re, k⟩ := hq
  refine ⟨L, m, h, env, rh, re, k.bind fun m1 H1 x h1 u g1 rh1 rx k1 => ⟨L, m1, h1, env, rh1, re.grow g1, k1.bind fun m2 H2 y h2 v g2 rh2 ry k2 => ?_⟩⟩
  rw [← bnd_ok (cmpR o h2 x y)] at k2
  obtain ⟨c, ec, kc⟩ := cmpR_some k2
  exact ⟨L, m2, h2, x, y, c, rh2, rx.grow g2, ry, ec, kc m2 H2 _ (Grow.refl _ _) rh2 rfl⟩
theorem t_cmp (C : Cn X Γ W) (o : CO) (ha : PE X a (tE Γ W ea)) (hb : PE X b (tE Γ W eb)) (hm : behindInMarks (co o) b = false) :
    PT X (.Compare a [co o] [b] pos) (tB' Γ W (tru fun env h => bnd (ea env h) fun x h => bnd (eb env h) fun y h => cmpR o h x y)) := by
  refine pt_imp (pt_cmpR (op_cmpV (Γ := Γ) C.K C.un o) ha hb hm) fun σ H Q hq => ?_
  obtain ⟨L, m, h, env, rh, re, k⟩ := hq
  unfold tru at k
  rw [bnd_bnd] at k
  refine ⟨L, m, h, env, rh, re, k.bind fun m1 H1 x h1 u g1 rh1 rx k1 => ?_⟩
  rw [bnd_bnd] at k1
  refine ⟨L, m1, h1, env, rh1, re.grow g1, k1.bind fun m2 H2 y h2 v g2 rh2 ry k2 => ?_⟩
  obtain ⟨c, ec, kc⟩ := cmpR_some k2
  exact ⟨L, m2, h2, x, y, c, rh2, rx.grow g2, ry, ec, c, rfl, kc m2 H2 c (Grow.refl _ _) rh2 rfl⟩
def chainR (o : CO) (h : Hh) (x y : Vl) (f : R Vl) : R Vl := match cmpV o h x y with
  | some true => f
  | some false => .ok (.bl false) h
  | none => .bad
theorem s_chain (C : Cn X Γ W) (o p : CO) (ha : PE X a (tE Γ W ea)) (hb : PE X b (tE Γ W eb)) (hc : PE X c (tE Γ W ec)) (hm : lastMarks [co o, co p] [b, c] = false) :
    PE X (.Compare a [co o, co p] [b, c] pos) (tE Γ W fun env h => bnd (ea env h) fun x h => bnd (eb env h) fun y h => chainR o h x y (bnd (ec env h) fun z h => cmpR p h y z)) := by
  refine pe_imp (pe_chain (op_cmpV (Γ := Γ) C.K C.un o) (op_cmpV (Γ := Γ) C.K C.un p) ha hb hc hm) fun σ H Q hq => ?_
  obtain ⟨L, m, h, env, rh, re, k⟩ := hq
  refine ⟨L, m, h, env, rh, re, k.bind fun m1 H1 x h1 u g1 rh1 rx k1 => ⟨L, m1, h1, env, rh1, re.grow g1, k1.bind fun m2 H2 y h2 v g2 rh2 ry k2 => ?_⟩⟩
  unfold chainR at k2
  split at k2
  · rename_i ec
    refine ⟨L, m2, h2, x, y, true, rh2, rx.grow g2, ry, ec, true, rfl, ?_⟩
    rw [if_pos rfl]
    refine ⟨L, m2, h2, env, rh2, (re.grow g1).grow g2, k2.bind fun m3 H3 z h3 w g3 rh3 rz k3 => ?_⟩
    rw [← bnd_ok (cmpR p h3 y z)] at k3
    obtain ⟨d, ed, kd⟩ := cmpR_some k3
    exact ⟨L, m3, h3, y, z, d, rh3, ry.grow g3, rz, ed, kd m3 H3 _ (Grow.refl _ _) rh3 rfl⟩
  · rename_i ec
    refine ⟨L, m2, h2, x, y, false, rh2, rx.grow g2, ry, ec, false, rfl, ?_⟩
    rw [if_neg Bool.false_ne_true]
    exact k2 m2 H2 _ (Grow.refl _ _) rh2 rfl
  · exact k2.elim
theorem t_chain (C : Cn X Γ W) (o p : CO) (ha : PE X a (tE Γ W ea)) (hb : PE X b (tE Γ W eb)) (hc : PE X c (tE Γ W ec)) (hm : lastMarks [co o, co p] [b, c] = false) :
    PT X (.Compare a [co o, co p] [b, c] pos) (tB' Γ W (tru fun env h => bnd (ea env h) fun x h => bnd (eb env h) fun y h => chainR o h x y (bnd (ec env h) fun z h => cmpR p h y z))) := by
  refine pt_imp (pt_chain (op_cmpV (Γ := Γ) C.K C.un o) (op_cmpV (Γ := Γ) C.K C.un p) ha hb hc hm) fun σ H Q hq => ?_
  obtain ⟨L, m, h, env, rh, re, k⟩ := hq
  unfold tru at k
  rw [bnd_bnd] at k
  refine ⟨L, m, h, env, rh, re, k.bind fun m1 H1 x h1 u g1 rh1 rx k1 => ?_⟩
  rw [bnd_bnd] at k1
  refine ⟨L, m1, h1, env, rh1, re.grow g1, k1.bind fun m2 H2 y h2 v g2 rh2 ry k2 => ?_⟩
  unfold chainR at k2
  split at k2
  · rename_i ec
    refine ⟨L, m2, h2, x, y, true, rh2, rx.grow g2, ry, ec, true, rfl, ?_⟩
    rw [if_pos rfl]
    rw [bnd_bnd] at k2
    refine ⟨L, m2, h2, env, rh2, (re.grow g1).grow g2, k2.bind fun m3 H3 z h3 w g3 rh3 rz k3 => ?_⟩
    obtain ⟨d, ed, kd⟩ := cmpR_some k3
    exact ⟨L, m3, h3, y, z, d, rh3, ry.grow g3, rz, ed, d, rfl, kd m3 H3 _ (Grow.refl _ _) rh3 rfl⟩
  · rename_i ec
    refine ⟨L, m2, h2, x, y, false, rh2, rx.grow g2, ry, ec, false, rfl, ?_⟩
    rw [if_neg Bool.false_ne_true]
    exact ⟨false, rfl, k2 m2 H2 _ (Grow.refl _ _) rh2 rfl⟩
  · exact k2.elim
theorem t_plain (C : Cn X Γ W) (ha : PE X a (tE Γ W ea)) (he : ∀ whole, isTrue a X.env whole = (do let v ← whole; standAt a.pos; holding [v] (truthy v))) : PT X a (tB' Γ W (tru ea)) := by
  refine ⟨fun pins s σ H Q I hq => ?_⟩
  obtain ⟨L, m, h, env, rh, re, k⟩ := hq
  refine isTrue_plain (thn (ha.run pins s σ H (fun x H1 => ∃ L m h a c, RepH Γ L m h H1 ∧ RepV Γ L m H1 a x ∧ truth h a = some c ∧ Q c H1) I ⟨L, m, h, env, rh, re, k.bind fun m1 H1 x h1 u g1 rh1 rx k1 => ?_⟩) fun v s1 ⟨x, H1, I1, r1, q1⟩ => tru_truth C.K pins s1 σ H1 x v Q I1 r1 q1) (he _)
  cases ht : truth h1 x with
  | none =>
    rw [ht] at k1
    exact k1.elim
  | some c =>
    rw [ht] at k1
    exact ⟨L, m1, h1, x, c, rh1, rx, ht, k1 m1 H1 c (Grow.refl _ _) rh1 rfl⟩
def andR (x : Vl) (h : Hh) (f : R Vl) : R Vl := match x with
  | .bl true => f
  | .bl false => .ok (.bl false) h
  | _ => .bad
def orR (x : Vl) (h : Hh) (f : R Vl) : R Vl := match x with
  | .bl true => .ok (.bl true) h
  | .bl false => f
  | _ => .bad
theorem okG.now {L m : List Addr} {H : Hp} {σ : L2.St} {α β : Type} {rel : List Addr → Hp → α → β → Prop} {v : α} {u : β} {h : Hh} {Q : β → Hp → Prop} (k : okG Γ W L m H σ rel (.ok v h) Q) (rh : RepH Γ L m h H) (r : rel m H v u) : Q u H := k m H u (Grow.refl _ _) rh r
theorem s_and1 {p : Pos} (ha : PE X a (tE Γ W ea)) : PE X (.BoolOp .And [a] p) (tE Γ W ea) := pe_one ha
theorem s_or1 {p : Pos} (ha : PE X a (tE Γ W ea)) : PE X (.BoolOp .Or [a] p) (tE Γ W ea) := pe_one ha
theorem w_and1 {p : Pos} (ha : PT X a (tB' Γ W (tru ea))) : PW X (.BoolOp .And [a] p) (tB' Γ W (tru ea)) := pw_and1 ha
theorem w_or1 {p : Pos} (ha : PT X a (tB' Γ W (tru ea))) : PW X (.BoolOp .Or [a] p) (tB' Γ W (tru ea)) := pw_or1 ha
theorem s_and {es : List Expr} (ha : PE X a (tE Γ W ea)) (hb : PE X (.BoolOp .And (b :: es) pos) (tE Γ W eb)) : PE X (.BoolOp .And (a :: b :: es) pos) (tE Γ W fun env h => bnd (ea env h) fun x h => andR x h (eb env h)) := by
  refine pe_imp (pe_and ha hb) fun σ H Q hq => ?_
  obtain ⟨L, m, h, env, rh, re, k⟩ := hq
  refine ⟨L, m, h, env, rh, re, k.bind fun m1 H1 x h1 u g1 rh1 rx k1 => ?_⟩
  unfold andR at k1
  split at k1
  · refine ⟨true, rx, ?_⟩
    rw [if_pos rfl]
    exact ⟨L, m1, h1, env, rh1, re.grow g1, k1⟩
  · refine ⟨false, rx, ?_⟩
    rw [if_neg Bool.false_ne_true]
    exact k1.now rh1 rfl
  · exact k1.elim
theorem s_or {es : List Expr} (ha : PE X a (tE Γ W ea)) (hb : PE X (.BoolOp .Or (b :: es) pos) (tE Γ W eb)) : PE X (.BoolOp .Or (a :: b :: es) pos) (tE Γ W fun env h => bnd (ea env h) fun x h => orR x h (eb env h)) := by
  refine pe_imp (pe_or ha hb) fun σ H Q hq => ?_
  obtain ⟨L, m, h, env, rh, re, k⟩ := hq
  refine ⟨L, m, h, env, rh, re, k.bind fun m1 H1 x h1 u g1 rh1 rx k1 => ?_⟩
  unfold orR at k1
  split at k1
  · refine ⟨true, rx, ?_⟩
    rw [if_pos rfl]
    exact k1.now rh1 rfl
  · refine ⟨false, rx, ?_⟩
    rw [if_neg Bool.false_ne_true]
    exact ⟨L, m1, h1, env, rh1, re.grow g1, k1⟩
  · exact k1.elim
theorem w_and {es : List Expr} (ha : PT X a (tB' Γ W (tru ea))) (hb : PW X (.BoolOp .And (b :: es) pos) (tB' Γ W (tru eb))) : PW X (.BoolOp .And (a :: b :: es) pos) (tB' Γ W (tru fun env h => bnd (ea env h) fun x h => andR x h (eb env h))) := by
  refine pw_imp (pw_and ha hb) fun σ H Q hq => ?_
  obtain ⟨L, m, h, env, rh, re, k⟩ := hq
  unfold tru at k
  rw [bnd_bnd] at k
  refine ⟨L, m, h, env, rh, re, ?_⟩
  unfold tru
  cases hr : ea env h with
  | exc c p h1 =>
    rw [hr] at k
    exact k
  | bad =>
    rw [hr] at k
    exact k
  | ok x h1 =>
    rw [hr] at k
    show okG Γ W L m H σ _ (lift (truth h1 x) h1) _
    have k : okG Γ W L m H σ (fun _ _ (a b : Bool) => a = b) (bnd (andR x h1 (eb env h1)) fun x h => lift (truth h x) h) Q := k
    unfold andR at k
    split at k
    · intro m1 H1 u g1 rh1 e
      cases e
      rw [if_pos rfl]
      exact ⟨L, m1, h1, env, rh1, re.grow g1, okG.later k g1 rh1⟩
    · intro m1 H1 u g1 rh1 e
      cases e
      rw [if_neg Bool.false_ne_true]
      exact k m1 H1 false g1 rh1 rfl
    · exact k.elim
theorem w_or {es : List Expr} (ha : PT X a (tB' Γ W (tru ea))) (hb : PW X (.BoolOp .Or (b :: es) pos) (tB' Γ W (tru eb))) : PW X (.BoolOp .Or (a :: b :: es) pos) (tB' Γ W (tru fun env h => bnd (ea env h) fun x h => orR x h (eb env h))) := by
  refine pw_imp (pw_or ha hb) fun σ H Q hq => ?_
  obtain ⟨L, m, h, env, rh, re, k⟩ := hq
  unfold tru at k
  rw [bnd_bnd] at k
  refine ⟨L, m, h, env, rh, re, ?_⟩
  unfold tru
  cases hr : ea env h with
  | exc c p h1 =>
    rw [hr] at k
    exact k
  | bad =>
    rw [hr] at k
    exact k
  | ok x h1 =>
    rw [hr] at k
    show okG Γ W L m H σ _ (lift (truth h1 x) h1) _
    have k : okG Γ W L m H σ (fun _ _ (a b : Bool) => a = b) (bnd (orR x h1 (eb env h1)) fun x h => lift (truth h x) h) Q := k
    unfold orR at k
    split at k
    · intro m1 H1 u g1 rh1 e
      cases e
      rw [if_pos rfl]
      exact k m1 H1 true g1 rh1 rfl
    · intro m1 H1 u g1 rh1 e
      cases e
      rw [if_neg Bool.false_ne_true]
      exact ⟨L, m1, h1, env, rh1, re.grow g1, okG.later k g1 rh1⟩
    · exact k.elim
def notR (x : Vl) (h : Hh) : R Vl := match truth h x with
  | some b => .ok (.bl (!b)) h
  | none => .bad
theorem t_not (ha : PT X a (tB' Γ W (tru ea))) : PT X (.UnaryOp .Not a pos) (tB' Γ W (tru fun env h => bnd (ea env h) notR)) := by
  refine pt_imp (pt_not ha) fun σ H Q hq => ?_
  obtain ⟨L, m, h, env, rh, re, k⟩ := hq
  unfold tru at k
  rw [bnd_bnd] at k
  refine ⟨L, m, h, env, rh, re, ?_⟩
  unfold tru
  cases hr : ea env h with
  | exc c p h1 =>
    rw [hr] at k
    exact k
  | bad =>
    rw [hr] at k
    exact k
  | ok x h1 =>
    rw [hr] at k
    show okG Γ W L m H σ _ (lift (truth h1 x) h1) _
    have k : okG Γ W L m H σ (fun _ _ (a b : Bool) => a = b) (bnd (notR x h1) fun x h => lift (truth h x) h) Q := k
    unfold notR at k
    cases ht : truth h1 x with
    | none =>
      rw [ht] at k
      exact k.elim
    | some b =>
      rw [ht] at k
      intro m1 H1 u g1 rh1 e
      cases e
      exact k m1 H1 (!b) g1 rh1 rfl
theorem s_not (C : Cn X Γ W) (ha : PE X a (tE Γ W ea)) : PE X (.UnaryOp .Not a pos) (tE Γ W fun env h => bnd (ea env h) notR) := by
  refine ⟨fun pins s σ H Q I hq => ?_⟩
  obtain ⟨L, m, h, env, rh, re, k⟩ := hq
  refine UnaryOp_ (thn (ha.run pins s σ H (fun x H1 => ∃ L m h a c, RepH Γ L m h H1 ∧ RepV Γ L m H1 a x ∧ truth h a = some c ∧ Q (.bl (!c)) H1) I ⟨L, m, h, env, rh, re, k.bind fun m1 H1 x h1 u g1 rh1 rx k1 => ?_⟩) fun v s1 ⟨x, H1, I1, r1, L, m, h, a, c, q1, q2, q3, q4⟩ =>
    not_of (thn (tru_truth C.K pins s1 σ H1 x v (fun c H2 => Q (.bl (!c)) H2) I1 r1 ⟨L, m, h, a, c, q1, q2, q3, q4⟩) fun b s2 ⟨H2, I2, q⟩ => ⟨.bl (!b), H2, I2, rfl, q⟩))
  unfold notR at k1
  split at k1
  · rename_i b hb
    exact ⟨L, m1, h1, x, b, rh1, rx, hb, k1.now rh1 rfl⟩
  · exact k1.elim
def iteR (x : Vl) (h : Hh) (f g : R Vl) : R Vl := match truth h x with
  | some true => f
  | some false => g
  | none => .bad
theorem s_ite (hc : PT X c (tB' Γ W (tru ec))) (ha : PE X a (tE Γ W ea)) (hb : PE X b (tE Γ W eb)) : PE X (.IfExp c a b pos) (tE Γ W fun env h => bnd (ec env h) fun x h => iteR x h (ea env h) (eb env h)) := by
  refine pe_imp (pe_ifExp hc ha hb) fun σ H Q hq => ?_
  obtain ⟨L, m, h, env, rh, re, k⟩ := hq
  dsimp only at k
  refine ⟨L, m, h, env, rh, re, ?_⟩
  unfold tru
  cases hr : ec env h with
  | exc c p h1 =>
    rw [hr] at k
    exact k
  | bad =>
    rw [hr] at k
    exact k
  | ok x h1 =>
    rw [hr] at k
    have k : okG Γ W L m H σ (fun m' H' => RepV Γ L m' H') (iteR x h1 (ea env h1) (eb env h1)) Q := k
    show okG Γ W L m H σ _ (lift (truth h1 x) h1) _
    unfold iteR at k
    split at k
    · rename_i ht
      rw [ht]
      intro m1 H1 u g1 rh1 e
      cases e
      rw [if_pos rfl]
      exact ⟨L, m1, h1, env, rh1, re.grow g1, okG.later k g1 rh1⟩
    · rename_i ht
      rw [ht]
      intro m1 H1 u g1 rh1 e
      cases e
      rw [if_neg Bool.false_ne_true]
      exact ⟨L, m1, h1, env, rh1, re.grow g1, okG.later k g1 rh1⟩
    · exact k.elim
theorem t_ite (hc : PT X c (tB' Γ W (tru ec))) (ha : PT X a (tB' Γ W (tru ea))) (hb : PT X b (tB' Γ W (tru eb))) : PT X (.IfExp c a b pos) (tB' Γ W (tru fun env h => bnd (ec env h) fun x h => iteR x h (ea env h) (eb env h))) := by
  refine ⟨fun pins s σ H Q I hq => ?_⟩
  obtain ⟨L, m, h, env, rh, re, k⟩ := hq
  unfold tru at k
  rw [bnd_bnd] at k
  refine isTrue_IfExp (thn (hc.run pins s σ H (fun d H1 => if d = true then tB' Γ W (tru ea) σ H1 Q else tB' Γ W (tru eb) σ H1 Q) I ⟨L, m, h, env, rh, re, ?_⟩) fun d s1 ⟨H1, I1, q1⟩ => ?_)
  · unfold tru
    cases hr : ec env h with
    | exc c p h1 =>
      rw [hr] at k
      exact k
    | bad =>
      rw [hr] at k
      exact k
    | ok x h1 =>
      rw [hr] at k
      have k : okG Γ W L m H σ (fun _ _ (a b : Bool) => a = b) (bnd (iteR x h1 (ea env h1) (eb env h1)) fun x h => lift (truth h x) h) Q := k
      show okG Γ W L m H σ _ (lift (truth h1 x) h1) _
      unfold iteR at k
      split at k
      · rename_i ht
        rw [ht]
        intro m1 H1 u g1 rh1 e
        cases e
        rw [if_pos rfl]
        exact ⟨L, m1, h1, env, rh1, re.grow g1, okG.later k g1 rh1⟩
      · rename_i ht
        rw [ht]
        intro m1 H1 u g1 rh1 e
        cases e
        rw [if_neg Bool.false_ne_true]
        exact ⟨L, m1, h1, env, rh1, re.grow g1, okG.later k g1 rh1⟩
      · exact k.elim
  · cases d with
    | true => exact ha.run pins s1 σ H1 Q I1 q1
    | false => exact hb.run pins s1 σ H1 Q I1 q1
variable {es : List Expr} {el : Env → Hh → R (List Vl)}
theorem a_nil : PA X [] (tL Γ W fun _ h => .ok [] h) := by
  refine pa_imp pa_nil fun σ H Q hq => ?_
  obtain ⟨L, m, h, env, rh, re, k⟩ := hq
  exact k.now (u := []) rh trivial
theorem a_cons (ha : PE X a (tE Γ W ea)) (hr : PA X es (tL Γ W el)) (hs : starEach (a :: es) X.env = (false, eval a X.env) :: starEach es X.env) :
    PA X (a :: es) (tL Γ W fun env h => bnd (ea env h) fun x h => bnd (el env h) fun xs h => .ok (x :: xs) h) := by
  refine pa_imp (pa_cons ha hr hs) fun σ H Q hq => ?_
  obtain ⟨L, m, h, env, rh, re, k⟩ := hq
  exact ⟨L, m, h, env, rh, re, k.bind fun m1 H1 x h1 u g1 rh1 rx k1 => ⟨L, m1, h1, env, rh1, re.grow g1, k1.bind fun m2 H2 xs h2 us g2 rh2 rxs k2 => k2.now (u := u :: us) rh2 ⟨rx.grow g2, rxs⟩⟩⟩
def starR (x : Vl) (h : Hh) (f : R (List Vl)) : R (List Vl) := match seqOf h x with
  | some ys => bnd f fun xs h => .ok (ys ++ xs) h
  | none => .bad
theorem a_star {p : Pos} (C : Cn X Γ W) (ha : PE X a (tE Γ W ea)) (hr : PA X es (tL Γ W el)) :
    PA X (.Starred a p :: es) (tL Γ W fun env h => bnd (ea env h) fun x h => starR x h (el env h)) := by
  refine pa_imp (StX.pa_star ha hr) fun σ H Q hq => ?_
  obtain ⟨L, m, h, env, rh, re, k⟩ := hq
  refine ⟨L, m, h, env, rh, re, k.bind fun m1 H1 x h1 u g1 rh1 rx k1 => ?_⟩
  unfold starR at k1
  split at k1
  · rename_i ys hy
    obtain ⟨q, us, e, sq, rr⟩ := seqOf_rep rh1 rx hy
    refine ⟨q, us, e, ?_, L, m1, h1, env, rh1, re.grow g1, k1.bind fun m2 H2 xs h2 vs g2 rh2 rxs k2 => k2.now (u := us ++ vs) rh2 ((rr.grow' g2).append rxs)⟩
    rw [C.K]
    exact sq.symm
  · exact k1.elim
def tupR (xs : List Vl) (h : Hh) : R Vl := match decide (xs.length ≤ line) with
  | true => .ok (.tup xs) h
  | false => .bad
theorem s_tup {k} (ha : PA X es (tL Γ W el)) : PE X (.Tuple es k pos) (tE Γ W fun env h => bnd (el env h) tupR) := by
  refine pe_imp (pe_tup ha) fun σ H Q hq => ?_
  obtain ⟨L, m, h, env, rh, re, k⟩ := hq
  refine ⟨L, m, h, env, rh, re, k.bind fun m1 H1 xs h1 us g1 rh1 rx k1 => ?_⟩
  unfold tupR at k1
  split at k1
  · rename_i hd
    refine ⟨by rw [← rx.length, ← line_eq]; exact of_decide_eq_true hd, fun p hp => ?_⟩
    exact okV.newT k1 rh1 hp rx
  · exact k1.elim
def dispR (xs : List Vl) (h : Hh) : R (List Vl) := match decide (xs.length ≤ line) with
  | true => .ok xs h
  | false => .bad
theorem f_disp (ha : PA X es (tL Γ W el)) : PE X (.List es pos) (tF Γ W fun env h => bnd (el env h) dispR) := by
  refine pe_imp (pe_lst ha) fun σ H Q hq => ?_
  obtain ⟨L, m, h, env, rh, re, k⟩ := hq
  refine ⟨L, m, h, env, rh, re, okF.bind rh k fun m1 H1 xs h1 us g1 rh1 rx k1 => ?_⟩
  unfold dispR at k1
  split at k1
  · rename_i hd
    refine ⟨by rw [← rx.length, ← line_eq]; exact of_decide_eq_true hd, fun p hp => ?_⟩
    exact okN.new k1 rh1 hp rx
  · exact k1.elim
theorem s_fz {ef : Env → Hh → R (List Vl)} (h : PE X a (tF Γ W ef)) : PE X a (tE Γ W fun env h => bnd (ef env h) fun xs h => .ok (.lst xs) h) := by
  refine pe_imp h fun σ H Q hq => ?_
  obtain ⟨L, m, h, env, rh, re, k⟩ := hq
  exact ⟨L, m, h, env, rh, re, okF.fz rh k⟩
theorem s_th {ef : Env → Hh → R (List Vl)} (h : PE X a (tF Γ W ef)) : PE X a (tE Γ W fun env h => bnd (ef env h) fun xs h => .ok (.ref h.length) (h ++ [.lst xs])) := by
  refine pe_imp h fun σ H Q hq => ?_
  obtain ⟨L, m, h, env, rh, re, k⟩ := hq
  exact ⟨L, m, h, env, rh, re, okF.th rh k⟩
theorem s_sub (C : Cn X Γ W) (ha : PE X a (tE Γ W ea)) (hb : PE X b (tE Γ W eb)) (hs : PlainIx b) :
    PE X (.Subscript a b pos) (tE Γ W fun env h => bnd (ea env h) fun x h => bnd (eb env h) fun y h => lift (subV h x y) h) := by
  refine pe_imp (pe_ix (ix_sub (Γ := Γ) C.K C.u1) ha hb hs) fun σ H Q hq => ?_
  obtain ⟨L, m, h, env, rh, re, k⟩ := hq
  refine ⟨L, m, h, env, rh, re, k.bind fun m1 H1 x h1 u g1 rh1 rx k1 => ⟨L, m1, h1, env, rh1, re.grow g1, k1.bind fun m2 H2 y h2 v g2 rh2 ry k2 => ?_⟩⟩
  obtain ⟨z, ez, kz⟩ := k2.lift
  exact ⟨L, m2, h2, x, y, z, rh2, rx.grow g2, ry, ez, kz⟩
theorem o_none : PO X none (tO' Γ W fun _ h => .ok none h) := by
  refine ⟨fun pins s σ H Q I hq => po_none.run pins s σ H Q I ?_⟩
  obtain ⟨L, m, h, env, rh, re, k⟩ := hq
  exact k.now (u := none) rh rfl
def partR (x : Vl) (h : Hh) : R (Option Int) := match x with
  | .int i => .ok (some i) h
  | _ => .bad
theorem o_some (ha : PE X a (tE Γ W ea)) : PO X (some a) (tO' Γ W fun env h => bnd (ea env h) partR) := by
  refine ⟨fun pins s σ H Q I hq => (po_some ha).run pins s σ H Q I ?_⟩
  obtain ⟨L, m, h, env, rh, re, k⟩ := hq
  refine ⟨L, m, h, env, rh, re, k.bind fun m1 H1 x h1 u g1 rh1 rx k1 => ?_⟩
  unfold partR at k1
  split at k1
  · rename_i i
    exact ⟨i, rx, k1.now (u := some i) rh1 rfl⟩
  · exact k1.elim
variable {lo hi : Option Expr} {eo eu : Env → Hh → R (Option Int)} {p2 : Pos}
theorem s_slc (C : Cn X Γ W) (ha : PE X a (tE Γ W ea)) (hl : PO X lo (tO' Γ W eo)) (hu : PO X hi (tO' Γ W eu)) :
    PE X (.Subscript a (.Slice lo hi none p2) pos) (tE Γ W fun env h => bnd (ea env h) fun x h => bnd (eo env h) fun l h => bnd (eu env h) fun u h => lift (cutW h x l u) h) := by
  refine pe_imp (pe_slice (sl_cut (Γ := Γ) C.K) ha hl hu) fun σ H Q hq => ?_
  obtain ⟨L, m, h, env, rh, re, k⟩ := hq
  refine ⟨L, m, h, env, rh, re, k.bind fun m1 H1 x h1 u g1 rh1 rx k1 => ⟨L, m1, h1, env, rh1, re.grow g1, k1.bind fun m2 H2 l h2 v g2 rh2 el k2 => ?_⟩⟩
  cases el
  refine ⟨L, m2, h2, env, rh2, (re.grow g1).grow g2, k2.bind fun m3 H3 l' h3 v' g3 rh3 el' k3 => ?_⟩
  cases el'
  obtain ⟨z, ez, kz⟩ := k3.lift
  exact ⟨L, m3, h3, x, z, rh3, (rx.grow g2).grow g3, ez, kz⟩
def cutR (x : Vl) (l u : Option Int) (h : Hh) : R (List Vl) := match lstOf h x with
  | some xs => .ok (cut xs l u) h
  | none => .bad
theorem f_slf (C : Cn X Γ W) (ha : PE X a (tE Γ W ea)) (hl : PO X lo (tO' Γ W eo)) (hu : PO X hi (tO' Γ W eu)) :
    PE X (.Subscript a (.Slice lo hi none p2) pos) (tF Γ W fun env h => bnd (ea env h) fun x h => bnd (eo env h) fun l h => bnd (eu env h) fun u h => cutR x l u h) := by
  refine pe_imp (pe_slice (sl_cutN (Γ := Γ)) ha hl hu) fun σ H Q hq => ?_
  obtain ⟨L, m, h, env, rh, re, k⟩ := hq
  refine ⟨L, m, h, env, rh, re, okF.bind rh k fun m1 H1 x h1 u g1 rh1 rx k1 => ⟨L, m1, h1, env, rh1, re.grow g1, okF.bind rh1 k1 fun m2 H2 l h2 v g2 rh2 el k2 => ?_⟩⟩
  cases el
  refine ⟨L, m2, h2, env, rh2, (re.grow g1).grow g2, okF.bind rh2 k2 fun m3 H3 l' h3 v' g3 rh3 el' k3 => ?_⟩
  cases el'
  unfold cutR at k3
  split at k3
  · rename_i xs hx
    exact ⟨L, m3, h3, x, xs, rh3, (rx.grow g2).grow g3, hx, k3⟩
  · exact k3.elim
end
end Mi
set_option Elab.async false
set_option linter.all false
set_option maxRecDepth 100000
set_option maxHeartbeats 4000000
namespace Mi
open PySem PySem.Spec PyProof.Rows L2
def spC (Γ : Gm) (cf : CF) (f : Nat) : Sp := fun vs H Q E => ∃ L m h args, RepH Γ L m h H ∧ RepL Γ L m H args vs ∧ okG Γ (fun c d _ H' => E c d H') L m H [] (fun m' H' => RepV Γ L m' H') (cf f args h) Q
structure FnI (Γ : Gm) (cf : CF) (k : Nat) (f : Nat) : Prop where
  kp : PySem.W.keepIn Γ.K (.ref (Γ.fa f)) = true
  ok : ∃ fd ps, FnOk Γ.P Γ.w Γ.K Γ.mg Γ.base (L2.CX Γ.P Γ.w) k (Γ.fa f) fd ps (spC Γ cf f) ∧ Binds Γ.K fd ps []
theorem okG.at {Γ : Gm} {W : WX} {L m : List Addr} {H : Hp} {σ : L2.St} {α β : Type} {rel : List Addr → Hp → α → β → Prop} {r : R α} {Q : β → Hp → Prop} (k : okG Γ W L m H σ rel r Q) : okG Γ (fun c d _ H' => WE W σ c d H') L m H [] rel r Q := by
  cases r with
  | ok a h => exact k
  | exc c p h => exact k
  | bad => exact k
def isStar : Expr → Bool
  | .Starred _ _ => true
  | _ => false
def noStars : List Expr → Bool
  | [] => true
  | e :: r => match isStar e with
    | true => false
    | false => noStars r
theorem star_cons {e : Expr} {es : List Expr} {env : PySem.Env} (h : isStar e = false) : starEach (e :: es) env = (false, eval e env) :: starEach es env := by
  cases e <;> first | rfl | (cases h)
theorem noStars_cons {e : Expr} {es : List Expr} (h : noStars (e :: es) = true) : isStar e = false ∧ noStars es = true := by
  unfold noStars at h
  split at h
  · cases h
  · rename_i q
    exact ⟨q, h⟩
theorem noStars_any {env : PySem.Env} {pos : Pos} : ∀ {es : List Expr}, noStars es = true → (backTo pos (starEach es env)).any (·.1) = false
  | [], _ => rfl
  | e :: es, h => by
    obtain ⟨h1, h2⟩ := noStars_cons h
    rw [star_cons h1]
    show (false || (backTo pos (starEach es env)).any (·.1)) = false
    rw [noStars_any h2]
    rfl
section
variable {X : Cx} {Γ : Gm} {W : WX} {cf : CF} {k : Nat} {f : Nat} {x : Str} {p pos : Pos} {e : Expr} {es : List Expr} {el : Env → Hh → R (List Vl)}
theorem run_c (C : Cn X Γ W) (F : FnI Γ cf k f) (hr : Room k X.A) {pins : List (Addr × Obj)} {σ : L2.St} {H : Hp} {s : Shared} {Q : VK} {us : List Value} {vs : List V} {L m : List Addr} {h : Hh} {args : List Vl} (I : Inv X pins σ H s) (r : Vals vs us)
    (rh : RepH Γ L m h H) (ra : RepL Γ L m H args vs) (kk : okG Γ W L m H σ (fun m' H' => RepV Γ L m' H') (cf f args h) Q) : wpAny (model X.prog X.w) X.A (call (.ref (Γ.fa f)) us) (EP X pins σ Q) X.xe s := by
  obtain ⟨fd, ps, F', hb⟩ := F.ok
  rw [← C.prog, ← C.w, ← C.K, ← C.mg, ← C.base] at F'
  rw [← C.K] at hb
  exact run_fnS F' hr hb (passAt C.tk σ) I r ⟨L, m, h, args, rh, ra, kk.at⟩
theorem s_call0 (C : Cn X Γ W) (F : FnI Γ cf k f) (hr : Room k X.A) (hg : Gl X x) (hm : Γ.mg x = some (.ref (Γ.fa f))) (hdb : (x == ("__debug__" : Str)) = false) :
    PE X (.Call (.Name x p) [] [] pos) (tE Γ W fun env h => cf f [] h) := by
  have hk := F.kp
  rw [← C.K] at hk
  rw [← C.mg] at hm
  refine ⟨fun pins s σ H Q I hq => ?_⟩
  obtain ⟨L, m, h, env, rh, re, kk⟩ := hq
  refine wpAny_Call_Name_kw (ld_glob I hg hm ?_ hdb)
  exact PySem.W.callWith_K0 I.kIn hk (run_c (us := []) (vs := []) (args := []) C F hr I .nil rh trivial kk)
theorem s_call (C : Cn X Γ W) (F : FnI Γ cf k f) (hr : Room k X.A) (hg : Gl X x) (hm : Γ.mg x = some (.ref (Γ.fa f))) (hdb : (x == ("__debug__" : Str)) = false) (ha : PA X (e :: es) (tL Γ W el)) (hst : noStars (e :: es) = true) :
    PE X (.Call (.Name x p) (e :: es) [] pos) (tE Γ W fun env h => bnd (el env h) fun xs h => cf f xs h) := by
  have hk := F.kp
  rw [← C.K] at hk
  rw [← C.mg] at hm
  obtain ⟨h1, h2⟩ := noStars_cons hst
  refine ⟨fun pins s σ H Q I hq => ?_⟩
  obtain ⟨L, m, h, env, rh, re, kk⟩ := hq
  refine wpAny_Call_Name_kw (ld_glob I hg hm ?_ hdb)
  refine PySem.W.callWith_K (h₀ := X.base) I.ok.mod.kin hk (thn (ha.run pos pins s σ H (fun vs H1 => ∃ L m h args, RepH Γ L m h H1 ∧ RepL Γ L m H1 args vs ∧ okG Γ W L m H1 σ (fun m' H' => RepV Γ L m' H') (cf f args h) Q) I ⟨L, m, h, env, rh, re, kk.bind fun m1 H1 xs h1 us g1 rh1 rx k1 => ⟨L, m1, h1, xs, rh1, rx, k1⟩⟩) fun us s1 ⟨vs, H1, I1, r, L', m', h', args, a1, a2, a3⟩ => ⟨I1.kIn, ?_⟩) (star_cons h1) (noStars_any h2)
  exact run_c C F hr I1 r a1 a2 a3
theorem s_callv {i : Nat} (C : Cn X Γ W) (F : ∀ f, FnI Γ cf k f) (hr : Room k X.A) (hN : X.N[i]? = some x) (hv : Vis X.env.scope x) (hdb : (x == ("__debug__" : Str)) = false) (hcd : (x == ("__classdict__" : Str)) = false) (ha : PA X (e :: es) (tL Γ W el)) (hst : noStars (e :: es) = true) :
    PE X (.Call (.Name x p) (e :: es) [] pos) (tE Γ W fun env h => match env[i]? with
      | some (some (.fn f)) => bnd (el env h) fun xs h => cf f xs h
      | _ => .bad) := by
  obtain ⟨h1, h2⟩ := noStars_cons hst
  refine ⟨fun pins s σ H Q I hq => ?_⟩
  obtain ⟨L, m, h, env, rh, re, kk⟩ := hq
  dsimp only at kk
  split at kk
  · rename_i f hf
    obtain ⟨u, e1, r⟩ := re.2 i _ hf
    refine wpAny_Call_Name_kw (thn ((pe_var (pos := p) hN hv hdb hcd).run pins s σ H (fun v H1 => v = .ref (Γ.fa f) ∧ H1 = H) I ⟨u, e1, r, rfl⟩) fun u s1 ⟨v, H1, I1, r1, q1⟩ => ?_)
    obtain ⟨rfl, rfl⟩ := q1
    cases r1
    have hk := (F f).kp
    rw [← C.K] at hk
    refine PySem.W.callWith_K (h₀ := X.base) I.ok.mod.kin hk (thn (ha.run pos pins s1 σ H1 (fun vs H1 => ∃ L m h args, RepH Γ L m h H1 ∧ RepL Γ L m H1 args vs ∧ okG Γ W L m H1 σ (fun m' H' => RepV Γ L m' H') (cf f args h) Q) I1 ⟨L, m, h, env, rh, re, kk.bind fun m1 H1 xs h1 us g1 rh1 rx k1 => ⟨L, m1, h1, xs, rh1, rx, k1⟩⟩) fun us s1 ⟨vs, H1, I1, r, L', m', h', args, a1, a2, a3⟩ => ⟨I1.kIn, ?_⟩) (star_cons h1) (noStars_any h2)
    exact run_c C (F f) hr I1 r a1 a2 a3
  · exact kk.elim
theorem s_callB {b : Bif} {id : String} (hc : CallR X (.builtin id) (rF Γ b)) (hg : Gl X x) (hm : X.mg x = none) (hv : bootBuiltins x = some (.builtin id)) (ha : PA X (e :: es) (tL Γ W el)) (hn : x ≠ "__name__") (hdb : (x == ("__debug__" : Str)) = false) (hst : noStars (e :: es) = true) :
    PE X (.Call (.Name x p) (e :: es) [] pos) (tE Γ W fun env h => bnd (el env h) fun xs h => lift (bifV b h xs) h) := by
  obtain ⟨h1, h2⟩ := noStars_cons hst
  refine pe_imp (pe_callB hc hg hm hv ha hn hdb (star_cons h1) (noStars_any h2)) fun σ H Q hq => ?_
  obtain ⟨L, m, h, env, rh, re, kk⟩ := hq
  refine ⟨L, m, h, env, rh, re, kk.bind fun m1 H1 xs h1 us g1 rh1 rx k1 => ?_⟩
  obtain ⟨z, ez, kz⟩ := k1.lift
  exact ⟨L, m1, h1, xs, z, rh1, rx, ez, kz⟩
theorem s_callT {b : Bif} {id : String} (hc : CallR X (.type id) (rF Γ b)) (hg : Gl X x) (hm : X.mg x = none) (hv : bootBuiltins x = some (.type id)) (ha : PA X (e :: es) (tL Γ W el)) (hn : x ≠ "__name__") (hdb : (x == ("__debug__" : Str)) = false) (hst : noStars (e :: es) = true) :
    PE X (.Call (.Name x p) (e :: es) [] pos) (tE Γ W fun env h => bnd (el env h) fun xs h => lift (bifV b h xs) h) := by
  obtain ⟨h1, h2⟩ := noStars_cons hst
  refine pe_imp (pe_callTy hc hg hm hv ha hn hdb (star_cons h1) (noStars_any h2)) fun σ H Q hq => ?_
  obtain ⟨L, m, h, env, rh, re, kk⟩ := hq
  refine ⟨L, m, h, env, rh, re, kk.bind fun m1 H1 xs h1 us g1 rh1 rx k1 => ?_⟩
  obtain ⟨z, ez, kz⟩ := k1.lift
  exact ⟨L, m1, h1, xs, z, rh1, rx, ez, kz⟩
def bifNm : Bif → String
  | .len => "len"
  | .abs => "abs"
  | .max2 => "max"
  | .min2 => "min"
  | .maxl => "max"
  | .minl => "min"
  | .int => "int"
  | .tuple => "tuple"
  | .sum => "sum"
  | .all => "all"
  | .any => "any"
  | _ => ""
theorem s_bif (C : Cn X Γ W) {b : Bif} (hg : Gl X (bifNm b)) (hb : bifNm b ≠ "") (hm : Γ.mg (bifNm b) = none) (ha : PA X (e :: es) (tL Γ W el)) (hst : noStars (e :: es) = true) :
    PE X (.Call (.Name (bifNm b) p) (e :: es) [] pos) (tE Γ W fun env h => bnd (el env h) fun xs h => lift (bifV b h xs) h) := by
  rw [← C.mg] at hm
  cases b with
  | len => exact s_callB (cb_len C.K) hg hm PySem.boot_len ha (by decide) (by decide) hst
  | abs => exact s_callB cb_abs hg hm PyProof.Rows.boot_abs ha (by decide) (by decide) hst
  | max2 => exact s_callB (cb_max2 C.calm) hg hm PyProof.Rows.boot_max ha (by decide) (by decide) hst
  | min2 => exact s_callB (cb_min2 C.calm) hg hm PyProof.Rows.boot_min ha (by decide) (by decide) hst
  | maxl => exact s_callB (cb_maxl C.calm) hg hm PyProof.Rows.boot_max ha (by decide) (by decide) hst
  | minl => exact s_callB (cb_minl C.calm) hg hm PyProof.Rows.boot_min ha (by decide) (by decide) hst
  | int => exact s_callT cb_int hg hm PyProof.Rows.boot_int ha (by decide) (by decide) hst
  | tuple => exact s_callT (cb_tuple C.K) hg hm PyProof.Rows.boot_tuple ha (by decide) (by decide) hst
  | sum => exact s_callB (cb_sum C.K C.calm) hg hm PyProof.Rows.boot_sum ha (by decide) (by decide) hst
  | all => exact s_callB (cb_all C.calm) hg hm PyProof.Rows.boot_all ha (by decide) (by decide) hst
  | any => exact s_callB (cb_any C.calm) hg hm PyProof.Rows.boot_any ha (by decide) (by decide) hst
  | _ => exact absurd rfl hb
def listR (x : Vl) (h : Hh) : R (List Vl) := lift (seqOf h x) h
theorem f_list {ea : Env → Hh → R Vl} (C : Cn X Γ W) (hg : Gl X "list") (hm : Γ.mg "list" = none) (ha : PE X e (tE Γ W ea)) (hst : isStar e = false) :
    PE X (.Call (.Name "list" p) [e] [] pos) (tF Γ W fun env h => bnd (ea env h) listR) := by
  rw [← C.mg] at hm
  refine pe_imp (pe_callTy (cb_list (Γ := Γ) C.K) hg hm PyProof.Rows.boot_list (pa_cons ha pa_nil (star_cons hst)) (by decide) (by decide) (star_cons hst) rfl) fun σ H Q hq => ?_
  obtain ⟨L, m, h, env, rh, re, kk⟩ := hq
  refine ⟨L, m, h, env, rh, re, okF.bind rh kk fun m1 H1 x h1 u g1 rh1 rx k1 => ?_⟩
  obtain ⟨z, ez, kz⟩ := k1.lift
  exact ⟨L, m1, h1, x, u, z, rfl, rh1, rx, ez, kz⟩
def srtR (rev : Bool) (x : Vl) (h : Hh) : R (List Vl) := match lstOf h x with
  | some l => match intsOf l with
    | some l => match rev with
      | true => .ok ((sortI l).reverse.map .int) h
      | false => .ok ((sortI l).map .int) h
    | none => .bad
  | none => .bad
theorem f_sorted {ea : Env → Hh → R Vl} (C : Cn X Γ W) (hg : Gl X "sorted") (hm : Γ.mg "sorted" = none) (ha : PE X e (tE Γ W ea)) (hst : isStar e = false) :
    PE X (.Call (.Name "sorted" p) [e] [] pos) (tF Γ W fun env h => bnd (ea env h) (srtR false)) := by
  rw [← C.mg] at hm
  refine pe_imp (pe_callB (cb_sorted (Γ := Γ)) hg hm PyProof.Rows.boot_sorted (pa_cons ha pa_nil (star_cons hst)) (by decide) (by decide) (star_cons hst) rfl) fun σ H Q hq => ?_
  obtain ⟨L, m, h, env, rh, re, kk⟩ := hq
  refine ⟨L, m, h, env, rh, re, okF.bind rh kk fun m1 H1 x h1 u g1 rh1 rx k1 => ?_⟩
  unfold srtR at k1
  split at k1
  · rename_i l hl
    split at k1
    · rename_i l2 hl2
      exact ⟨L, m1, h1, x, u, l, l2, rfl, rh1, rx, hl, hl2, k1⟩
    · exact k1.elim
  · exact k1.elim
theorem f_sortedR {ea : Env → Hh → R Vl} {j : Nat} {p2 p3 : Pos} (C : Cn X Γ W) (hg : Gl X "sorted") (hm : Γ.mg "sorted" = none) (ha : PE X e (tE Γ W ea)) (hst : isStar e = false) :
    PE X (.Call (.Name "sorted" p) [e] [⟨some "reverse", .Constant (.bool true) j p2, p3⟩] pos) (tF Γ W fun env h => bnd (ea env h) (srtR true)) := by
  rw [← C.mg] at hm
  have hh : backTo pos (starEach [e] X.env) = (false, eval e X.env) :: backTo pos (starEach [] X.env) := by
    rw [star_cons hst]
    rfl
  refine pe_imp (pe_callBK (cb_sortedR (Γ := Γ)) hg hm PyProof.Rows.boot_sorted (pa_cons ha pa_nil (star_cons hst)) (pk_cons pe_bl pk_nil) (by decide) (by decide) hh (by rw [hh]; rfl)) fun σ H Q hq => ?_
  obtain ⟨L, m, h, env, rh, re, kk⟩ := hq
  refine ⟨L, m, h, env, rh, re, okF.bind rh kk fun m1 H1 x h1 u g1 rh1 rx k1 => ?_⟩
  unfold srtR at k1
  split at k1
  · rename_i l hl
    split at k1
    · rename_i l2 hl2
      exact ⟨L, m1, h1, x, u, l, l2, rfl, rfl, rh1, rx, hl, hl2, k1⟩
    · exact k1.elim
  · exact k1.elim
def plainBase : Expr → Bool
  | .Call (.Name id _) [] [] _ => !(id == ("super" : Str))
  | _ => true
theorem base_plain {o : Expr} {a : Str} {env : PySem.Env} {whole : Sem Value} (h : plainBase o = true) : attributeBase o a env whole = whole := by
  unfold attributeBase
  split
  · rename_i id p pos
    have hs : (id != ("super" : Str)) = true := by
      have h : (!(id == ("super" : Str))) = true := h
      exact h
    rw [hs]
    rfl
  · rfl
def mthNm : Mth → String
  | .append => "append"
  | .extend => "extend"
  | .pop0 => "pop"
  | .pop1 => "pop"
  | .bitlen => "bit_length"
theorem ref_list {L m : List Addr} {H : Hp} {h : Hh} {n : Nat} {xs : List Vl} {u : V} {K : PySem.W.Frag} (rh : RepH Γ L m h H) (r : RepV Γ L m H (.ref n) u) (e : h[n]? = some (.lst xs)) : tyV K "list" u H := by
  obtain ⟨p, rfl, q⟩ := r
  obtain ⟨us, e2, _⟩ := rh.at_ q e
  exact .inl ⟨rfl, us, SqL.of e2⟩
def mthR (t : Mth) (x : Vl) (h : Hh) (f : R (List Vl)) : R Vl := match rcv t h x with
  | true => bnd f fun xs h => mthV t h x xs
  | false => .bad
theorem rcv_list {t : Mth} {h : Hh} {x : Vl} (ht : t ≠ .bitlen) (e : rcv t h x = true) : ∃ n l, x = .ref n ∧ h[n]? = some (.lst l) := by
  unfold rcv at e
  split at e
  · exact absurd rfl ht
  · split at e
    · split at e
      · rename_i n _ l hl
        exact ⟨_, _, rfl, hl⟩
      · cases e
    · cases e
theorem okG.mth {t : Mth} {L m : List Addr} {H : Hp} {σ : L2.St} {h : Hh} {x : Vl} {xs : List Vl} {u : V} {us : List V} {Q : VK} (rh : RepH Γ L m h H) (rx : RepV Γ L m H x u) (rxs : RepL Γ L m H xs us) (k : okG Γ W L m H σ (fun m' H' => RepV Γ L m' H') (mthV t h x xs) Q)
    (hx : ∀ c p h1, mthV t h x xs ≠ .exc c p h1) : rM Γ t u us H Q := by
  cases e : mthV t h x xs with
  | ok v h1 =>
    rw [e] at k
    exact ⟨L, m, h, x, xs, v, h1, rh, rx, rxs, e, k⟩
  | exc c p h1 => exact absurd e (hx c p h1)
  | bad =>
    rw [e] at k
    exact k.elim
theorem mthV_noexc (t : Mth) (h : Hh) (x : Vl) (xs : List Vl) : ∀ c p h1, mthV t h x xs ≠ .exc c p h1 := by
  intro c p h1 e
  cases t <;> simp only [mthV, appendV, extendV, popV, popAtV, bitsV] at e <;> (repeat' split at e) <;> cases e
theorem s_mth1 {t : Mth} {id : String} {o : Expr} {eo : Env → Hh → R Vl} {apos : Pos} (ht : t ≠ .bitlen) (C : Cn X Γ W) (slot : Slot "list" (Str.ofString (mthNm t)) id) (hty : typeOf (.builtin id) = pure (.type "method_descriptor")) (hm : MtR X id (rM Γ t)) (ho : PE X o (tE Γ W eo)) (ha : PA X [e] (tL Γ W el))
    (hb : plainBase o = true) (hl : (apos.endLine == pos.line) = true) (hst : isStar e = false) : PE X (.Call (.Attribute o (mthNm t) apos) [e] [] pos) (tE Γ W fun env h => bnd (eo env h) fun x h => mthR t x h (el env h)) := by
  have hs : starEach [e] X.env = [(false, eval e X.env)] := star_cons hst
  refine pe_imp (pe_bm PySem.F.plainAttrs_list slot hty hm ho ha (base_plain hb) (by rw [hs]; rfl) hl hs rfl) fun σ H Q hq => ?_
  obtain ⟨L, m, h, env, rh, re, kk⟩ := hq
  refine ⟨L, m, h, env, rh, re, kk.bind fun m1 H1 x h1 u g1 rh1 rx k1 => ?_⟩
  unfold mthR at k1
  split at k1
  · rename_i hr
    obtain ⟨n, l, rfl, hn⟩ := rcv_list ht hr
    refine ⟨ref_list rh1 rx hn, L, m1, h1, env, rh1, re.grow g1, k1.bind fun m2 H2 xs h2 us g2 rh2 rxs k2 => ?_⟩
    exact okG.mth rh2 (rx.grow g2) rxs k2 (mthV_noexc _ _ _ _)
  · exact k1.elim
theorem s_mth0 {t : Mth} {id : String} {o : Expr} {eo : Env → Hh → R Vl} {apos : Pos} (ht : t ≠ .bitlen) (C : Cn X Γ W) (slot : Slot "list" (Str.ofString (mthNm t)) id) (hty : typeOf (.builtin id) = pure (.type "method_descriptor")) (hm : MtR X id (rM Γ t)) (ho : PE X o (tE Γ W eo))
    (hb : plainBase o = true) (hl : (apos.endLine == pos.line) = true) : PE X (.Call (.Attribute o (mthNm t) apos) [] [] pos) (tE Γ W fun env h => bnd (eo env h) fun x h => mthR t x h (.ok [] h)) := by
  refine pe_imp (pe_bm0 PySem.F.plainAttrs_list slot hty hm ho (base_plain hb) hl) fun σ H Q hq => ?_
  obtain ⟨L, m, h, env, rh, re, kk⟩ := hq
  refine ⟨L, m, h, env, rh, re, kk.bind fun m1 H1 x h1 u g1 rh1 rx k1 => ?_⟩
  unfold mthR at k1
  split at k1
  · rename_i hr
    obtain ⟨n, l, rfl, hn⟩ := rcv_list ht hr
    refine ⟨ref_list rh1 rx hn, ?_⟩
    exact okG.mth (xs := []) (us := []) rh1 rx trivial k1 (mthV_noexc _ _ _ _)
  · exact k1.elim
theorem s_bits {o : Expr} {eo : Env → Hh → R Vl} {apos : Pos} (ho : PE X o (tE Γ W eo)) (hb : plainBase o = true) (hl : (apos.endLine == pos.line) = true) :
    PE X (.Call (.Attribute o "bit_length" apos) [] [] pos) (tE Γ W fun env h => bnd (eo env h) fun x h => mthR .bitlen x h (.ok [] h)) := by
  refine pe_imp (pe_bits ho (base_plain hb) hl) fun σ H Q hq => ?_
  obtain ⟨L, m, h, env, rh, re, kk⟩ := hq
  refine ⟨L, m, h, env, rh, re, kk.bind fun m1 H1 x h1 u g1 rh1 rx k1 => ?_⟩
  replace k1 : okG Γ W L m1 H1 σ (fun m' H' => RepV Γ L m' H') (bitsV h1 x) Q := k1
  unfold bitsV at k1
  split at k1
  · rename_i i
    refine ⟨i, rx, ?_⟩
    have e : (Builtin.Int.intBits i : Nat) = if i = 0 then 0 else i.natAbs.log2 + 1 := by
      unfold Builtin.Int.intBits
      by_cases h : i = 0
      · rw [if_pos h, if_pos (by rw [h]; rfl)]
      · rw [if_neg h, if_neg (by simpa using h)]
    rw [e]
    refine k1.now rh1 ?_
    show V.int _ = V.int _
    congr 1
    split <;> rfl
  · exact k1.elim
theorem s_mth (C : Cn X Γ W) {o : Expr} {eo : Env → Hh → R Vl} {apos : Pos} {t : Mth} (ht : t = .append ∨ t = .extend ∨ t = .pop1) (ho : PE X o (tE Γ W eo)) (ha : PA X [e] (tL Γ W el)) (hb : plainBase o = true) (hl : (apos.endLine == pos.line) = true) (hst : isStar e = false) :
    PE X (.Call (.Attribute o (mthNm t) apos) [e] [] pos) (tE Γ W fun env h => bnd (eo env h) fun x h => mthR t x h (el env h)) := by
  rcases ht with rfl | rfl | rfl
  · exact s_mth1 (t := .append) (by simp) C PySem.F.slot_list_append PySem.F.type_list_append mb_append ho ha hb hl hst
  · exact s_mth1 (t := .extend) (by simp) C PySem.F.slot_list_extend PySem.F.type_list_extend mb_extend ho ha hb hl hst
  · exact s_mth1 (t := .pop1) (by simp) C PySem.F.slot_list_pop PySem.F.type_list_pop mb_pop1 ho ha hb hl hst
theorem s_pop (C : Cn X Γ W) {o : Expr} {eo : Env → Hh → R Vl} {apos : Pos} (ho : PE X o (tE Γ W eo)) (hb : plainBase o = true) (hl : (apos.endLine == pos.line) = true) :
    PE X (.Call (.Attribute o "pop" apos) [] [] pos) (tE Γ W fun env h => bnd (eo env h) fun x h => mthR .pop0 x h (.ok [] h)) :=
  s_mth0 (t := .pop0) (by simp) C PySem.F.slot_list_pop PySem.F.type_list_pop mb_pop0 ho hb hl
end
end Mi
set_option Elab.async false
set_option linter.all false
set_option maxRecDepth 100000
set_option maxHeartbeats 4000000
namespace EnT
open PySem PySem.Spec PyProof.Rows L2
theorem new_enum {v : Value} {o : Obj} {P : Heap → Prop} (B : Begins v o P) :
    Meets (Builtin.«enumerate.__new__» ⟨[.type "enumerate", v], []⟩) (fun _ R s => P s.heap ∧
      R (.ok (.ret (.ref (s.heap.push o).objs.size))) { s with heap := (s.heap.push o).push { cls := .type "enumerate", data := .fields #[.none, .bool false, .ref s.heap.objs.size, rawInt 0, .none, .none] } }) :=
  .of_wp fun prog w A R s h => by
    obtain ⟨hp, gg, dd, tt, oo⟩ := s
    obtain ⟨hP, h⟩ := h
    have hsub := sub_enumerate
    have goes : ∀ {A' : Around} {E Q : Value → Shared → Prop}, Q (.ref hp.objs.size) ⟨hp.push o, gg, dd, tt, oo⟩ → wpAny (model prog w) A' (pyIter v) Q E ⟨hp, gg, dd, tt, oo⟩ := fun q => B.iter prog w _ _ ⟨hp, gg, dd, tt, oo⟩ _ hP q
    wp_walk using goes
    refine wpAny_stack_any fun st => wpAny_pure ?_
    split
    · rename_i c _ _ _ _ _
      cases (c == Value.type "enumerate") <;> (wp_walk using goes; exact ⟨_, rfl, h⟩)
    · wp_walk using goes
      exact ⟨_, rfl, h⟩
section
variable {prog : Program} {w : World} {A : Around} {E : Value → Shared → Prop} {s : Shared}
theorem call_enum {v : Value} {o : Obj} {P : Heap → Prop} {Q : Value → Shared → Prop} (B : Begins v o P) (hP : P s.heap)
    (h : ∀ h', IsEnum h' (s.heap.objs.size + 1) s.heap.objs.size 0 .none → h'.get? s.heap.objs.size = some o → h'.objs.size = s.heap.objs.size + 2 → (∀ b o, s.heap.get? b = some o → h'.get? b = some o) → Q (.ref (s.heap.objs.size + 1)) { s with heap := h' }) :
    wpAny (model prog w) A (call (.type "enumerate") [v]) Q E s := by
  refine callType_new F.called_enumerate (by decide) (F.typeCall_enumerate_1 _) (F.newCall_enumerate_1 _) (fun obj => F.args_object_init_2 obj _) F.entry_enumerate_new (new_enum B) ⟨hP, ?_⟩
  have sz : (s.heap.push o).objs.size = s.heap.objs.size + 1 := Heap.size_push ..
  show _ ∧ _
  rw [sz]
  have he := Heap.get?_push_size (s.heap.push o) (o := { cls := .type "enumerate", data := .fields #[.none, .bool false, .ref s.heap.objs.size, rawInt 0, .none, .none] }) rfl
  rw [sz] at he
  exact ⟨⟨_, he, rfl⟩, h _ he (Heap.get?_push_of_some _ (Heap.get?_push_size _ B.free)) (by rw [Heap.size_push, sz]) fun b o x => Heap.get?_push_of_some _ (Heap.get?_push_of_some _ x)⟩
end
def Iet (K : PySem.W.Frag) (a : Addr) : It :=
  ⟨fun i H => ∃ (xs : List V) (x : V), SqT K H a xs ∧ xs[i]? = some x, fun i H v H' => ∃ T x, v = .ref T ∧ H T = none ∧ H' = upd H T (.tup [.int (i : Nat), x]) ∧ ∀ xs, SqT K H a xs → xs[i]? = some x, fun i H => ∃ xs : List V, SqT K H a xs ∧ xs.length ≤ i⟩
theorem turn_et {P : Program} {w : World} {K : PySem.W.Frag} {elts : List Expr} {kk : Nat} {tpos : Pos} (a e it : Addr) :
    Turn P w K (.Tuple elts kk tpos) (Iet K a) [e, it] e (fun i h => (∃ old, IsEnum h e it ((i : Nat) : Int) old) ∧ h.IsTupleIter it a i ∧ e ≠ it) where
  mem := List.mem_cons_self
  obj := fun i h st b hb => by
    obtain ⟨⟨old, he⟩, ⟨o, ho, hc, hd⟩, _⟩ := st
    have eb : b = e ∨ b = it := by simpa using hb
    rcases eb with rfl | rfl
    · exact ⟨_, he, fun v q => nomatch q⟩
    · exact ⟨o, ho, fun v q => by rw [hd] at q; cases q⟩
  keep := fun i h h' st k => let ⟨⟨old, he⟩, hi, hne⟩ := st; ⟨⟨old, k e List.mem_cons_self _ he⟩, hi.at fun o q => k it (List.mem_cons_of_mem _ List.mem_cons_self) o q, hne⟩
  item := by
    intro X hP hw hK hc i pins s σ H E I hf st hg
    subst hP hw hK
    obtain ⟨⟨old, he⟩, hit, hne⟩ := st
    obtain ⟨xs, x, hq, hx⟩ := hg
    obtain ⟨its, rv, p, hz⟩ := I.tuple hq
    obtain ⟨u, hu, ru⟩ := rv.get hx
    have p : s.heap.IsTuple a its.toArray := p
    have hel : e < s.heap.objs.size := Heap.lt_size he
    have hil : it < s.heap.objs.size := by obtain ⟨_, q, _⟩ := hit; exact Heap.lt_size q
    have nai : a ≠ it := fun z => by
      obtain ⟨o, ho, hc', _⟩ := hit
      obtain ⟨o2, ho2, hc2, _⟩ := p
      rw [z, ho] at ho2
      cases ho2
      rw [hc'] at hc2
      injection hc2 with hc2
      exact absurd hc2 (by decide)
    have nea : e ∉ [it, a] := fun z => by
      rcases List.mem_cons.mp z with z | z
      · exact hne z
      · obtain ⟨o2, ho2, hc2, _⟩ := p
        rw [← List.mem_singleton.mp z, he] at ho2
        cases ho2
        injection hc2 with hc2
        exact absurd hc2 (by decide)
    have Dr := Draws.tuple (prog := X.prog) (w := X.w) (A := X.A.in1) (I.ok.hd hc) it a nai its.toArray
    have hlt : i < its.toArray.size := by
      have := (List.getElem?_eq_some_iff.mp hu).1
      simpa using this
    refine wpAny_pyNext_enum_itemD Dr he ⟨hit, p⟩ hlt hne nea fun y h' tk hy ho st' hT hsz hk => ?_
    have ey : y = u := by
      rw [List.getElem?_toArray, hu] at hy
      exact (Option.some.inj hy).symm
    subst ey
    refine ⟨_, rfl, wpAny_letOwnedTupleGo_enum (s := { s with heap := h', toks := tk + 1 }) ho fun h'' he' sb => ?_⟩
    have hT2 : h''.get? s.heap.objs.size = some { cls := .type "tuple", data := .seq #[.int i tk, y] } := (sb.2 _ (Nat.ne_of_gt hel)).trans hT
    have new : ObjOk X.prog X.w (upd H s.heap.objs.size (.tup [.int (i : Nat), x])) h'' s.heap.objs.size (.tup [.int (i : Nat), x]) := ⟨by show 2 ≤ sizeLine; decide, [.int i tk, y], .cons ⟨_, rfl⟩ (.cons ru .nil), ⟨_, hT2, rfl, _, rfl⟩⟩
    have J : Inv X pins σ (upd H s.heap.objs.size (.tup [.int (i : Nat), x])) { s with heap := h'', toks := tk + 1 } :=
      I.turnedNew (ch := [e, it]) (fun b ob hb q => (sb.2 b (fun z => hb (by simp [z]))).trans (hk b ob (fun z => hb (by simp [z])) (fun z => hb (by simp [z])) q)) hf (Nat.le_refl _) new
    refine ⟨.ref s.heap.objs.size, _, J, rfl, ⟨_, x, rfl, I.hok.fresh (Nat.le_refl _), rfl, fun ys hy => by rw [I.tuple_inj hy hq]; exact hx⟩, ⟨⟨y, ?_⟩, st'.1.at fun o q => (sb.2 it (Ne.symm hne)).trans q, hne⟩, fun b hb => ?_⟩
    · have e1 : ((i + 1 : Nat) : Int) = (i : Int) + 1 := by omega
      rw [e1]
      exact he'
    · have lb : b < s.heap.objs.size := by
        have eb : b = e ∨ b = it := by simpa using hb
        rcases eb with z | z <;> rw [z]
        · exact hel
        · exact hil
      rw [upd_ne (Nat.ne_of_lt lb)]
      exact (hf b hb).1
  done := by
    intro X hP hw hK hc i pins s σ H E I hf st hg
    subst hP hw hK
    obtain ⟨⟨old, he⟩, hit, hne⟩ := st
    obtain ⟨xs, hq, hx⟩ := hg
    obtain ⟨its, rv, p, hz⟩ := I.tuple hq
    have p : s.heap.IsTuple a its.toArray := p
    have nai : a ≠ it := fun z => by
      obtain ⟨o, ho, hc', _⟩ := hit
      obtain ⟨o2, ho2, hc2, _⟩ := p
      rw [z, ho] at ho2
      cases ho2
      rw [hc'] at hc2
      injection hc2 with hc2
      exact absurd hc2 (by decide)
    obtain ⟨f0, f1, f2, f3, f4, f5⟩ := hf it (by simp)
    have hl := rv.length
    have Dr : Draws X.prog X.w X.A.in1 it [it, a] i (fun _ _ => True) (fun j h => j = i ∧ h.IsTupleIter it a i ∧ h.IsTuple a its.toArray) :=
      { live := fun _ _ st => let ⟨o, ho, _⟩ := st.2.1; ⟨o, ho⟩
        frame := fun _ _ _ st hk => ⟨st.1, st.2.1.at fun o e => hk it (by simp) o e, st.2.2.at fun o e => hk a (by simp) o e⟩
        item := fun j s' Q' E' hj st' hQ => absurd st'.1 (Nat.ne_of_lt hj)
        done := fun s' Q' E' st' hE => wpAny_nextOf_tuple_end (I.ok.hd hc) st'.2.1 st'.2.2 (by simp; omega) hE }
    exact wpAny_pyNext_enum_endD Dr he ⟨rfl, hit, p⟩ fun h' eb => ⟨rfl, I.turned (t' := s.toks) (fun b o hb q => eb b o hb q) f0 f1 f3 f4 f5⟩
  self := fun A i s Q E st h => let ⟨⟨_, he⟩, _⟩ := st; wpAny_pyIter_enum he h
def iEnA (K : PySem.W.Frag) (ta : TA) : TI := fun σ H R => ta σ H fun vs H1 => ∃ a xs, vs = [.ref a] ∧ ((SqL K H1 a xs ∧ R (Ite K a) H1) ∨ (SqT K H1 a xs ∧ R (Iet K a) H1))
theorem pi_enA {X : Cx} {e : Expr} {ta : TA} {p pos tpos : Pos} {elts : List Expr} {kk : Nat} (hg : Gl X "enumerate") (hm : X.mg "enumerate" = none) (ha : PA X [e] ta) (hs : starEach [e] X.env = [(false, eval e X.env)] := by rfl) :
    PI X (.Tuple elts kk tpos) (.Call (.Name "enumerate" p) [e] [] pos) (iEnA X.K ta) := by
  refine ⟨fun pins s σ H R I h => ?_⟩
  refine Call_ (ld_blt I hg hm boot_enumerate (PyProof.Rows.callWith_type1 (thn (ha.run pos pins s σ H _ I h) fun us s1 ⟨vs, H1, I1, r1, q1⟩ => ?_) hs rfl))
  obtain ⟨a, xs, rfl, hq⟩ := q1
  cases r1 with
  | cons r rr =>
    cases rr
    cases r
    have low : ∀ b, b ∈ [s1.heap.objs.size + 1, s1.heap.objs.size] → FpOk X pins H1 b := fun b hb => by
      have eb : b = s1.heap.objs.size + 1 ∨ b = s1.heap.objs.size := by simpa using hb
      have hle : s1.heap.objs.size ≤ b := by
        rcases eb with z | z <;> rw [z]
        · exact Nat.le_add_right _ _
        · exact Nat.le_refl _
      exact I1.fpOk hle (I1.hok.fresh hle)
    rcases hq with ⟨hq, q⟩ | ⟨hq, q⟩
    · obtain ⟨its, rv, p', hz⟩ := I1.list hq
      refine call_enumerate_list p'.isList fun h' he hit hsz hk => wpAny_pyIter_enum he ?_
      have J : Inv X pins σ H1 { s1 with heap := h' } := I1.kept (t' := s1.toks) hk
      exact ⟨s1.heap.objs.size + 1, _, _, _, H1, rfl, J, turn_enum a (s1.heap.objs.size + 1) s1.heap.objs.size, ⟨⟨.none, he⟩, hit, Nat.succ_ne_self _⟩, low, q⟩
    · obtain ⟨its, rv, p', hz⟩ := I1.tuple hq
      refine call_enum (begins_tuple a its.toArray) p' fun h' he hit hsz hk => wpAny_pyIter_enum he ?_
      have J : Inv X pins σ H1 { s1 with heap := h' } := I1.kept (t' := s1.toks) hk
      exact ⟨s1.heap.objs.size + 1, _, _, _, H1, rfl, J, turn_et a (s1.heap.objs.size + 1) s1.heap.objs.size, ⟨⟨.none, he⟩, ⟨_, hit, rfl, rfl⟩, Nat.succ_ne_self _⟩, low, q⟩
theorem walk_enT {K : PySem.W.Frag} {a : Addr} {xs : List V} : Walk (Iet K a) xs.length (fun H => SqT K H a xs) (YPair (fun i => some (.int (i : Nat))) (fun i => xs[i]?)) := by
  refine ⟨fun i _ hi q => ⟨xs, xs[i], q, by simp [hi]⟩, fun _ q => ⟨xs, q, Nat.le_refl _⟩, fun i H v H' _ q y => ?_⟩
  obtain ⟨T, x, h1, h2, h3, h4⟩ := y
  exact ⟨T, .int (i : Nat), x, h1, h2, h3, rfl, h4 xs q⟩
end EnT
set_option Elab.async false
set_option linter.all false
set_option maxRecDepth 100000
set_option maxHeartbeats 4000000
namespace ZpG
open PySem PySem.Spec PyProof.Rows L2
def SqK (k : Bool) (K : PySem.W.Frag) (H : Hp) (a : Addr) (xs : List V) : Prop := match k with
  | true => SqT K H a xs
  | false => SqL K H a xs
def IsK (k : Bool) (h : Heap) (a : Addr) (its : Array Value) : Prop := match k with
  | true => h.IsTuple a its
  | false => h.IsList a its
def IkK (k : Bool) (h : Heap) (it a : Addr) (i : Nat) : Prop := match k with
  | true => h.IsTupleIter it a i
  | false => h.IsListIter it a i
section
variable {X : Cx} {pins : List (Addr × Obj)} {σ : L2.St} {H : Hp} {s : Shared} {k : Bool} {a it : Addr} {xs ys : List V} {h h' : Heap} {i : Nat}
theorem sqk_is (I : Inv X pins σ H s) (q : SqK k X.K H a xs) : ∃ its : List Value, Vals xs its ∧ IsK k s.heap a its.toArray := by
  cases k with
  | true =>
    obtain ⟨its, r, p, _⟩ := I.tuple q
    exact ⟨its, r, p⟩
  | false =>
    obtain ⟨its, r, p, _⟩ := I.list q
    exact ⟨its, r, p.isList⟩
theorem sqk_inj (I : Inv X pins σ H s) (p : SqK k X.K H a xs) (q : SqK k X.K H a ys) : xs = ys := by
  cases k with
  | true => exact I.tuple_inj p q
  | false => exact I.list_inj p q
theorem isk_lt {its : Array Value} (p : IsK k s.heap a its) : a < s.heap.objs.size := by
  cases k with
  | true =>
    obtain ⟨o, e, _⟩ := p
    exact Heap.lt_size e
  | false =>
    obtain ⟨o, e, _⟩ := p
    exact Heap.lt_size e
theorem ikk_obj (p : IkK k h it a i) : ∃ o, h.get? it = some o ∧ ∀ v, o.data ≠ .cell v := by
  cases k with
  | true =>
    obtain ⟨o, e, _, d⟩ := p
    exact ⟨o, e, fun v q => by rw [d] at q; cases q⟩
  | false =>
    obtain ⟨o, e, _, d⟩ := p
    exact ⟨o, e, fun v q => by rw [d] at q; cases q⟩
theorem ikk_at (p : IkK k h it a i) (e : ∀ o, h.get? it = some o → h'.get? it = some o) : IkK k h' it a i := by
  cases k with
  | true => exact Heap.IsTupleIter.at p e
  | false => exact Heap.IsListIter.at p e
end
section
variable {prog : Program} {w : World} {A : Around}
theorem drK (k : Bool) (hh : A.handled = none) (it l : Addr) (hne : l ≠ it) (items : Array Value) : Draws prog w A it [it, l] items.size (fun i v => items[i]? = some v) (fun i h => IkK k h it l i ∧ IsK k h l items) := by
  cases k with
  | true => exact Draws.tuple hh it l hne items
  | false => exact Draws.list hh it l hne items
theorem drAny (k : Bool) (hh : A.handled = none) (it l : Addr) (hne : l ≠ it) (items : Array Value) (i : Nat) : ∃ n P St, Draws prog w A it [it, l] n P St ∧ (∀ h, IkK k h it l i → IsK k h l items → St i h) ∧ i ≤ n ∧ (items.size ≤ i → i = n) := by
  by_cases hle : items.size ≤ i
  · refine ⟨i, fun _ _ => True, fun j h => j = i ∧ IkK k h it l i ∧ IsK k h l items, ?_, fun h p q => ⟨rfl, p, q⟩, Nat.le_refl _, fun _ => rfl⟩
    have hx : items[i]? = none := by simp; omega
    refine ⟨fun _ _ st => let ⟨o, ho, _⟩ := ikk_obj st.2.1; ⟨o, ho⟩, fun _ h h' st hk => ⟨st.1, ikk_at st.2.1 fun o e => hk it (by simp) o e, ?_⟩, fun j s' Q' E' hj st' hQ => absurd st'.1 (Nat.ne_of_lt hj), fun s' Q' E' st' hE => ?_⟩
    · cases k with
      | true => exact Heap.IsTuple.at st.2.2 fun o e => hk l (by simp) o e
      | false => exact Heap.IsList.at st.2.2 fun o e => hk l (by simp) o e
    · cases k with
      | true => exact wpAny_nextOf_tuple_end hh st'.2.1 st'.2.2 hx hE
      | false => exact wpAny_nextOf_list_end hh st'.2.1 st'.2.2 hx hE
  · exact ⟨_, _, _, drK k hh it l hne items, fun h p q => ⟨p, q⟩, by omega, fun z => absurd z hle⟩
theorem bgK (k : Bool) (l : Addr) (items : Array Value) : ∃ o, Begins (.ref l) o (fun h => IsK k h l items) ∧ ∀ (h' : Heap) (it : Addr), h'.get? it = some o → IkK k h' it l 0 := by
  cases k with
  | true => exact ⟨_, begins_tuple l items, fun h' it e => ⟨_, e, rfl, rfl⟩⟩
  | false => exact ⟨_, begins_list l items, fun h' it e => ⟨_, e, rfl, rfl⟩⟩
end
def ItG (k j : Bool) (K : PySem.W.Frag) (a b : Addr) : It :=
  ⟨fun i H => ∃ (xs ys : List V) (x y : V), SqK k K H a xs ∧ SqK j K H b ys ∧ xs[i]? = some x ∧ ys[i]? = some y,
    fun i H v H' => ∃ T x y, v = .ref T ∧ H T = none ∧ H' = upd H T (.tup [x, y]) ∧ (∀ xs, SqK k K H a xs → xs[i]? = some x) ∧ ∀ ys, SqK j K H b ys → ys[i]? = some y,
    fun i H => ∃ xs ys : List V, SqK k K H a xs ∧ SqK j K H b ys ∧ (xs.length ≤ i ∨ ys.length ≤ i)⟩
theorem sepG {z TI TO i1 i2 a b : Addr} (D : ZipApart z TI TO i1 i2 a b) : ZipSep2 z TI TO i1 i2 [i1, a] [i2, b] where
  TIz := D.TIz
  TOz := D.TOz
  TITO := D.TITO
  TIi1 := D.TIi1
  mem1 := by simp
  zf1 := fun h => by
    rcases List.mem_cons.mp h with e | e
    · exact D.i1z e.symm
    · exact D.l1z (List.mem_singleton.mp e).symm
  Tf1 := fun h => by
    rcases List.mem_cons.mp h with e | e
    · exact D.TOi1 e
    · exact D.l1TO (List.mem_singleton.mp e).symm
  TIi2 := D.TIi2
  mem2 := by simp
  zf2 := fun h => by
    rcases List.mem_cons.mp h with e | e
    · exact D.i2z e.symm
    · exact D.l2z (List.mem_singleton.mp e).symm
  Tf2 := fun h => by
    rcases List.mem_cons.mp h with e | e
    · exact D.TOi2 e
    · exact D.l2TO (List.mem_singleton.mp e).symm
  sep1_2 := fun h => by
    rcases List.mem_cons.mp h with e | e
    · exact D.i12 e
    · exact D.l2i1 (List.mem_singleton.mp e).symm
  sep2_1 := fun h => by
    rcases List.mem_cons.mp h with e | e
    · exact D.i12 e.symm
    · exact D.l1i2 (List.mem_singleton.mp e).symm
theorem turn_g {P : Program} {w : World} {K : PySem.W.Frag} {elts : List Expr} {kk : Nat} {tpos : Pos} {k j : Bool} {a b z TI TO i1 i2 : Addr} (D : ZipApart z TI TO i1 i2 a b) :
    Turn P w K (.Tuple elts kk tpos) (ItG k j K a b) [z, TI, TO, i1, i2] z (fun i h => IsZip h z TI TO .none ∧ IsTupOf2 h TI (.ref i1) (.ref i2) ∧ (∃ x y, IsTupOf2 h TO x y) ∧ IkK k h i1 a i ∧ IkK j h i2 b i) where
  mem := by simp
  obj := fun i h st c hc => by
    obtain ⟨hz, hTI, ⟨x, y, hTO⟩, h1, h2⟩ := st
    have e' : c = z ∨ c = TI ∨ c = TO ∨ c = i1 ∨ c = i2 := by simpa using hc
    rcases e' with q | q | q | q | q <;> rw [q]
    · exact ⟨_, hz, fun v q => nomatch q⟩
    · exact ⟨_, hTI, fun v q => nomatch q⟩
    · exact ⟨_, hTO, fun v q => nomatch q⟩
    · exact ikk_obj h1
    · exact ikk_obj h2
  keep := fun i h h' st e => by
    obtain ⟨hz, hTI, ⟨x, y, hTO⟩, h1, h2⟩ := st
    exact ⟨e z (by simp) _ hz, e TI (by simp) _ hTI, ⟨x, y, e TO (by simp) _ hTO⟩, ikk_at h1 fun o q => e i1 (by simp) o q, ikk_at h2 fun o q => e i2 (by simp) o q⟩
  item := by
    intro X hP hw hK hc i pins s σ H E I hf st hg
    subst hP hw hK
    obtain ⟨hz, hTI, ⟨x0, y0, hTO⟩, h1, h2⟩ := st
    obtain ⟨xs, ys, x, y, hqx, hqy, hx, hy⟩ := hg
    obtain ⟨its, rv, p⟩ := sqk_is I hqx
    obtain ⟨its2, rv2, p2⟩ := sqk_is I hqy
    obtain ⟨u, hu, ru⟩ := rv.get hx
    obtain ⟨u2, hu2, ru2⟩ := rv2.get hy
    have hzl : z < s.heap.objs.size := Heap.lt_size hz
    have D1 := drK (prog := X.prog) (w := X.w) (A := X.A.in1) k (I.ok.hd hc) i1 a D.l1i1 its.toArray
    have D2 := drK (prog := X.prog) (w := X.w) (A := X.A.in1) j (I.ok.hd hc) i2 b D.l2i2 its2.toArray
    have l1 : i < its.toArray.size := by simpa using (List.getElem?_eq_some_iff.mp hu).1
    have l2 : i < its2.toArray.size := by simpa using (List.getElem?_eq_some_iff.mp hu2).1
    refine wpAny_pyNext_zipD2_item (sepG D) D1 D2 hz hTI hTO ⟨h1, p⟩ ⟨h2, p2⟩ l1 l2 fun v1 v2 h' tk e1 e2 z' TO' s1 s2 hT hsz hk => ?_
    have q1 : v1 = u := by
      rw [List.getElem?_toArray, hu] at e1
      exact (Option.some.inj e1).symm
    have q2 : v2 = u2 := by
      rw [List.getElem?_toArray, hu2] at e2
      exact (Option.some.inj e2).symm
    subst q1 q2
    refine ⟨_, rfl, wpAny_letOwnedTupleGo_zip (s := { s with heap := h', toks := tk }) z' fun h'' z'' sb => ?_⟩
    have hT2 : h''.get? s.heap.objs.size = some { cls := .type "tuple", data := .seq #[v1, v2] } := (sb.2 _ (Nat.ne_of_gt hzl)).trans hT
    have new : ObjOk X.prog X.w (upd H s.heap.objs.size (.tup [x, y])) h'' s.heap.objs.size (.tup [x, y]) := ⟨by show 2 ≤ sizeLine; decide, [v1, v2], .cons ru (.cons ru2 .nil), ⟨_, hT2, rfl, _, rfl⟩⟩
    have J : Inv X pins σ (upd H s.heap.objs.size (.tup [x, y])) { s with heap := h'', toks := tk } :=
      I.turnedNew (ch := [z, TI, TO, i1, i2]) (fun c o hb q => (sb.2 c fun e => hb (by simp [e])).trans (hk c o (fun e => hb (by simp [e])) (fun e => hb (by simp [e])) (fun e => hb (by simp [e])) (fun e => hb (by simp [e])) q)) hf (Nat.le_refl _) new
    refine ⟨.ref s.heap.objs.size, _, J, rfl, ⟨_, x, y, rfl, I.hok.fresh (Nat.le_refl _), rfl, fun l hl => by rw [sqk_inj I hl hqx]; exact hx, fun l hl => by rw [sqk_inj I hl hqy]; exact hy⟩, ⟨z'', ?_, ⟨v1, v2, ?_⟩, ?_, ?_⟩, fun c hcm => ?_⟩
    · exact (sb.2 _ D.TIz).trans (hk _ _ D.TIz D.TITO D.TIi1 D.TIi2 hTI)
    · exact (sb.2 _ D.TOz).trans TO'
    · exact ikk_at s1.1 fun o q => (sb.2 _ D.i1z).trans q
    · exact ikk_at s2.1 fun o q => (sb.2 _ D.i2z).trans q
    · have hlt : c < s.heap.objs.size := by
        have e' : c = z ∨ c = TI ∨ c = TO ∨ c = i1 ∨ c = i2 := by simpa using hcm
        rcases e' with q | q | q | q | q <;> rw [q]
        · exact hzl
        · exact Heap.lt_size hTI
        · exact Heap.lt_size hTO
        · exact let ⟨_, e, _⟩ := ikk_obj h1; Heap.lt_size e
        · exact let ⟨_, e, _⟩ := ikk_obj h2; Heap.lt_size e
      rw [upd_ne (Nat.ne_of_lt hlt)]
      exact (hf c hcm).1
  done := by
    intro X hP hw hK hc i pins s σ H E I hf st hg
    subst hP hw hK
    obtain ⟨hz, hTI, ⟨x0, y0, hTO⟩, h1, h2⟩ := st
    obtain ⟨xs, ys, hqx, hqy, hend⟩ := hg
    obtain ⟨its, rv, p⟩ := sqk_is I hqx
    obtain ⟨its2, rv2, p2⟩ := sqk_is I hqy
    have e1 := rv.length
    have e2 := rv2.length
    obtain ⟨n1, P1, S1, D1, f1, g1, k1⟩ := drAny (prog := X.prog) (w := X.w) (A := X.A.in1) k (I.ok.hd hc) i1 a D.l1i1 its.toArray i
    obtain ⟨n2, P2, S2, D2, f2, g2, k2⟩ := drAny (prog := X.prog) (w := X.w) (A := X.A.in1) j (I.ok.hd hc) i2 b D.l2i2 its2.toArray i
    refine wpAny_pyNext_zipD2_end (sepG D) D1 D2 hz hTI hTO (f1 _ h1 p) (f2 _ h2 p2) g1 g2 ?_ fun h' tk hk => ⟨rfl, I.turnedL (ch := [z, TI, TO, i1, i2]) (fun c o hb q =>
      hk c o (fun e => hb (by simp [e])) (fun e => hb (by simp [e])) (fun e => hb (by simp [e])) (fun e => hb (by simp [e])) q) hf⟩
    rcases hend with q | q
    · exact .inl (k1 (by simp; omega))
    · exact .inr (k2 (by simp; omega))
  self := fun A i s Q E st h => wpAny_pyIter_zip st.1 h
def iZipG (K : PySem.W.Frag) (ta : TA) : TI := fun σ H R => ta σ H fun vs H1 => ∃ (a b : Addr) (xs ys : List V) (k j : Bool), vs = [.ref a, .ref b] ∧ SqK k K H1 a xs ∧ SqK j K H1 b ys ∧ R (ItG k j K a b) H1
theorem pi_zipG {X : Cx} {e e2 : Expr} {ta : TA} {p pos tpos : Pos} {elts : List Expr} {kk : Nat} (hg : Gl X "zip") (hm : X.mg "zip" = none) (ha : PA X [e, e2] ta)
    (hs : starEach [e, e2] X.env = (false, eval e X.env) :: starEach [e2] X.env := by rfl) (hpl : (backTo pos (starEach [e2] X.env)).any (·.1) = false := by rfl) :
    PI X (.Tuple elts kk tpos) (.Call (.Name "zip" p) [e, e2] [] pos) (iZipG X.K ta) := by
  refine ⟨fun pins s σ H R I h => ?_⟩
  refine Call_ (ld_blt I hg hm PyProof.Rows.boot_zip (PyProof.Rows.callWith_type1 (thn (ha.run pos pins s σ H _ I h) fun us s1 ⟨vs, H1, I1, r1, q1⟩ => ?_) hs hpl))
  obtain ⟨a, b, xs, ys, k, j, ex, hqx, hqy, q⟩ := q1
  subst ex
  cases r1 with
  | cons r rr =>
    cases rr with
    | cons r' rr =>
      cases rr
      cases r
      cases r'
      have low : ∀ c, c ∈ [s1.heap.objs.size + 4, s1.heap.objs.size + 2, s1.heap.objs.size + 3, s1.heap.objs.size, s1.heap.objs.size + 1] → FpOk X pins H1 c := fun c hcm => by
        have e' : c = s1.heap.objs.size + 4 ∨ c = s1.heap.objs.size + 2 ∨ c = s1.heap.objs.size + 3 ∨ c = s1.heap.objs.size ∨ c = s1.heap.objs.size + 1 := by simpa using hcm
        have hle : s1.heap.objs.size ≤ c := by
          rcases e' with z | z | z | z | z <;> rw [z]
          · exact Nat.le_add_right _ _
          · exact Nat.le_add_right _ _
          · exact Nat.le_add_right _ _
          · exact Nat.le_refl _
          · exact Nat.le_add_right _ _
        exact I1.fpOk hle (I1.hok.fresh hle)
      obtain ⟨its, rv, p1⟩ := sqk_is I1 hqx
      obtain ⟨its2, rv2, p2⟩ := sqk_is I1 hqy
      obtain ⟨o1, B1, z1⟩ := bgK k a its.toArray
      obtain ⟨o2, B2, z2⟩ := bgK j b its2.toArray
      refine zip_begins2 B1 B2 p1 p2 fun h' hz hTI hTO g1 g2 hsz hk => wpAny_pyIter_zip hz ?_
      have J : Inv X pins σ H1 { s1 with heap := h' } := I1.kept (t' := s1.toks) hk
      exact ⟨s1.heap.objs.size + 4, [s1.heap.objs.size + 4, s1.heap.objs.size + 2, s1.heap.objs.size + 3, s1.heap.objs.size, s1.heap.objs.size + 1], _, _, H1, rfl, J, turn_g (PySem.W.ktu_apart s1.heap.objs.size a b (isk_lt p1) (isk_lt p2)), ⟨hz, hTI, ⟨_, _, hTO⟩, z1 _ _ g1, z2 _ _ g2⟩, low, q⟩
theorem walk_zipG {K : PySem.W.Frag} {k j : Bool} {a b : Addr} {xs ys : List V} : Walk (ItG k j K a b) (min xs.length ys.length) (fun H => SqK k K H a xs ∧ SqK j K H b ys) (YPair (fun i => xs[i]?) (fun i => ys[i]?)) := by
  refine ⟨fun i _ hi q => ⟨xs, ys, xs[i]'(by omega), ys[i]'(by omega), q.1, q.2, by simp, by simp⟩, fun _ q => ⟨xs, ys, q.1, q.2, by omega⟩, fun i H v H' _ q y => ?_⟩
  obtain ⟨T, x, z, h1, h2, h3, h4, h5⟩ := y
  exact ⟨T, x, z, h1, h2, h3, h4 xs q.1, h5 ys q.2⟩
end ZpG
set_option Elab.async false
set_option linter.all false
set_option maxRecDepth 100000
set_option maxHeartbeats 4000000
namespace Mi
open PySem PySem.Spec PyProof.Rows L2
def Rs (L : List Addr) (H : Hp) (L1 : List Addr) : Prop := L1 = L ∨ ∃ D, H D = none ∧ L1 = D :: L
theorem RepV.to1 {Γ : Gm} {L L1 m : List Addr} {H : Hp} {v : Vl} {u : V} (r : RepV Γ L m H v u) (e : Rs L H L1) : RepV Γ L1 m H v u := by
  rcases e with rfl | ⟨D, hD, rfl⟩
  · exact r
  · exact r.apart hD
def WkI (Γ : Gm) (L m : List Addr) (H : Hp) (xs : List Vl) (J : It) : Prop := ∃ G Y, Walk J xs.length G Y ∧ (∀ m1 H1, Grow m H m1 H1 → G H1) ∧
  ∀ L1, Rs L H L1 → ∀ (i : Nat) m1 h1 H1 x H1', i < xs.length → Grow m H m1 H1 → RepH Γ L1 m1 h1 H1 → Y i H1 x H1' → Grow m1 H1 m1 H1' ∧ RepH Γ L1 m1 h1 H1' ∧ ∃ vl, xs[i]? = some vl ∧ RepV Γ L1 m1 H1' vl x
def rWk (Γ : Gm) (L m : List Addr) (H : Hp) (w : Wk) (J : It) : Prop :=
  match w with
  | .its xs => WkI Γ L m H xs J
  | .live n => ∃ a, m[n]? = some a ∧ J = Itl Γ.K a
def tW (Γ : Gm) (W : WX) (ev : Env → Hh → R Wk) : TI := fun σ H R => ∃ L m h env, RepH Γ L m h H ∧ RepE Γ L m H env σ ∧ okG Γ W L m H σ (rWk Γ L) (ev env h) R
section
variable {Γ : Gm} {W : WX} {L m : List Addr} {H : Hp} {xs : List Vl} {us : List V} {a : Addr}
theorem wk_at {L1 m1 : List Addr} {h1 : Hh} {H1 H1' : Hp} {x : V} {i : Nat} (r : RepL Γ L m H xs us) (e : Rs L H L1) (hi : i < xs.length) (g : Grow m H m1 H1) (rh : RepH Γ L1 m1 h1 H1) (y : YAt us i H1 x H1') : Grow m1 H1 m1 H1' ∧ RepH Γ L1 m1 h1 H1' ∧ ∃ vl, xs[i]? = some vl ∧ RepV Γ L1 m1 H1' vl x := by
  obtain ⟨rfl, hx⟩ := y
  refine ⟨Grow.refl _ _, rh, xs[i], List.getElem?_eq_getElem hi, ?_⟩
  obtain ⟨u, h1, h2⟩ := r.get (List.getElem?_eq_getElem hi)
  rw [hx] at h1
  cases h1
  exact (h2.to1 e).grow g
theorem sqL_grow {m1 : List Addr} {H1 : Hp} (g : Grow m H m1 H1) (q : SqL Γ.K H a us) (n : a ∉ m) : SqL Γ.K H1 a us := by
  rcases q with (q | ⟨o, q⟩) | q
  · exact .inl (.inl (g.keep _ _ q n fun _ z => nomatch z))
  · exact .inl (.inr ⟨o, g.frz _ _ _ q⟩)
  · exact .inr q
theorem wk_list (r : RepL Γ L m H xs us) (q : SqL Γ.K H a us) (n : (∃ o, H a = some (.frz o (.lst us))) ∨ a ∉ m) : WkI Γ L m H xs (Itl Γ.K a) := by
  refine ⟨fun H => SqL Γ.K H a us, YAt us, ?_, fun m1 H1 g => ?_, fun L1 e i m1 h1 H1 x H1' hi g rh y => wk_at r e hi g rh y⟩
  · rw [r.length]
    exact walk_list
  · rcases n with ⟨o, n⟩ | n
    · exact .inl (.inr ⟨o, g.frz _ _ _ n⟩)
    · exact sqL_grow g q n
theorem wk_tup (r : RepL Γ L m H xs us) (q : SqT Γ.K H a us) : WkI Γ L m H xs (Itt Γ.K a) := by
  refine ⟨fun H => SqT Γ.K H a us, YAt us, ?_, fun m1 H1 g => sqT_grow g q, fun L1 e i m1 h1 H1 x H1' hi g rh y => wk_at r e hi g rh y⟩
  rw [r.length]
  exact walk_tup
theorem scr_sq (rh : ∃ h, RepH Γ L m h H) (q : ScL Γ.K L m H a us) : SqL Γ.K H a us ∧ ∀ m1 H1, Grow m H m1 H1 → SqL Γ.K H1 a us := by
  rcases q with ⟨o, q⟩ | q
  · exact ⟨.inl (.inr ⟨o, q⟩), fun m1 H1 g => .inl (.inr ⟨o, g.frz _ _ _ q⟩)⟩
  · obtain ⟨o, its, n, q⟩ := q
    exact ⟨.inr ⟨o, its, n, q⟩, fun _ _ _ => .inr ⟨o, its, n, q⟩⟩
theorem wk_scr (rh : ∃ h, RepH Γ L m h H) (r : RepL Γ L m H xs us) (q : ScL Γ.K L m H a us) : WkI Γ L m H xs (Itl Γ.K a) := by
  refine ⟨fun H => SqL Γ.K H a us, YAt us, ?_, fun m1 H1 g => (scr_sq rh q).2 m1 H1 g, fun L1 e i m1 h1 H1 x H1' hi g rh y => wk_at r e hi g rh y⟩
  rw [r.length]
  exact walk_list
theorem rangeL_length : ∀ (n : Nat) (a c : Int), (rangeL n a c).length = n
  | 0, _, _ => rfl
  | n + 1, a, c => by
    show (rangeL n (a + c) c).length + 1 = n + 1
    rw [rangeL_length n]
theorem rangeL_get : ∀ (n : Nat) (a c : Int) (i : Nat), i < n → (rangeL n a c)[i]? = some (.int (a + i * c))
  | 0, _, _, _, h => by omega
  | n + 1, a, c, 0, _ => by
    show some (Vl.int a) = _
    simp
  | n + 1, a, c, i + 1, h => by
    show (rangeL n (a + c) c)[i]? = _
    rw [rangeL_get n (a + c) c i (by omega)]
    have : a + c + (i : Int) * c = a + ((i + 1 : Nat) : Int) * c := by
      rw [show (((i + 1 : Nat) : Int)) = (i : Int) + 1 from rfl, Int.add_mul, Int.one_mul]
      omega
    rw [this]
theorem wk_range {lo : Int} {n : Nat} : WkI Γ L m H (rangeL n lo 1) (Itr lo n) := by
  refine ⟨fun _ => True, YFn fun i => .int (lo + i), ?_, fun _ _ _ => trivial, fun L1 e i m1 h1 H1 x H1' hi g rh y => ?_⟩
  · rw [rangeL_length]
    exact walk_range
  · obtain ⟨rfl, rfl⟩ := y
    rw [rangeL_length] at hi
    refine ⟨Grow.refl _ _, rh, _, rangeL_get n lo 1 i hi, ?_⟩
    rw [Int.mul_one]
    rfl
theorem wk_rangeC {lo c : Int} {n : Nat} : WkI Γ L m H (rangeL n lo c) (Itc lo c n) := by
  refine ⟨fun _ => True, YFn fun i => .int (lo + (i : Nat) * c), ?_, fun _ _ _ => trivial, fun L1 e i m1 h1 H1 x H1' hi g rh y => ?_⟩
  · rw [rangeL_length]
    exact walk_rangeC
  · obtain ⟨rfl, rfl⟩ := y
    rw [rangeL_length] at hi
    exact ⟨Grow.refl _ _, rh, _, rangeL_get n lo c i hi, rfl⟩
theorem wk_pair {L1 m1 : List Addr} {h1 : Hh} {H1 H1' : Hp} {x : V} {i : Nat} {f g' : Nat → Option V} {p q : Vl} (rh : RepH Γ L1 m1 h1 H1) (y : YPair f g' i H1 x H1') (hf : ∀ u, f i = some u → RepV Γ L1 m1 H1 p u) (hg : ∀ u, g' i = some u → RepV Γ L1 m1 H1 q u) :
    Grow m1 H1 m1 H1' ∧ RepH Γ L1 m1 h1 H1' ∧ RepV Γ L1 m1 H1' (.tup [p, q]) x := by
  obtain ⟨T, u, w, rfl, hT, rfl, e1, e2⟩ := y
  have g := Grow.fresh (m := m1) (o := .tup [u, w]) hT
  exact ⟨g, rh.fresh hT, T, [u, w], rfl, SqT.of upd_same, (hf u e1).grow g, (hg w e2).grow g, trivial⟩
theorem wk_enum (r : RepL Γ L m H xs us) (q : ∀ m1 H1, Grow m H m1 H1 → SqL Γ.K H1 a us) : WkI Γ L m H (List.zipWith (fun i v => .tup [i, v]) (rangeL xs.length 0 1) xs) (Ite Γ.K a) := by
  have hl : (List.zipWith (fun i v => Vl.tup [i, v]) (rangeL xs.length 0 1) xs).length = us.length := by
    rw [List.length_zipWith, rangeL_length, Nat.min_self, r.length]
  refine ⟨fun H => SqL Γ.K H a us, YPair (fun i => some (.int (i : Nat))) (fun i => us[i]?), ?_, q, fun L1 e i m1 h1 H1 x H1' hi g rh y => ?_⟩
  · rw [hl]
    exact walk_enum
  · rw [hl] at hi
    have hi' : i < xs.length := by rw [r.length]; exact hi
    obtain ⟨u, e1, e2⟩ := r.get (List.getElem?_eq_getElem hi')
    obtain ⟨a1, a2, a3⟩ := wk_pair (p := .int i) (q := xs[i]) rh y (fun v ev => (Option.some.inj ev).symm) (fun v ev => by
      rw [e1] at ev
      cases ev
      exact (e2.to1 e).grow g)
    refine ⟨a1, a2, _, ?_, a3⟩
    rw [List.getElem?_zipWith, rangeL_get _ _ _ _ hi', List.getElem?_eq_getElem hi']
    simp
theorem wk_enT (r : RepL Γ L m H xs us) (q : SqT Γ.K H a us) : WkI Γ L m H (List.zipWith (fun i v => .tup [i, v]) (rangeL xs.length 0 1) xs) (EnT.Iet Γ.K a) := by
  have hl : (List.zipWith (fun i v => Vl.tup [i, v]) (rangeL xs.length 0 1) xs).length = us.length := by
    rw [List.length_zipWith, rangeL_length, Nat.min_self, r.length]
  refine ⟨fun H => SqT Γ.K H a us, YPair (fun i => some (.int (i : Nat))) (fun i => us[i]?), ?_, fun m1 H1 g => sqT_grow g q, fun L1 e i m1 h1 H1 x H1' hi g rh y => ?_⟩
  · rw [hl]
    exact EnT.walk_enT
  · rw [hl] at hi
    have hi' : i < xs.length := by rw [r.length]; exact hi
    obtain ⟨u, e1, e2⟩ := r.get (List.getElem?_eq_getElem hi')
    obtain ⟨a1, a2, a3⟩ := wk_pair (p := .int i) (q := xs[i]) rh y (fun v ev => (Option.some.inj ev).symm) (fun v ev => by
      rw [e1] at ev
      cases ev
      exact (e2.to1 e).grow g)
    refine ⟨a1, a2, _, ?_, a3⟩
    rw [List.getElem?_zipWith, rangeL_get _ _ _ _ hi', List.getElem?_eq_getElem hi']
    simp
theorem wk_zip0 {ys : List Vl} {ws : List V} {J : It} {G : Hp → Prop} (r : RepL Γ L m H xs us) (r' : RepL Γ L m H ys ws) (w : Walk J (min us.length ws.length) G (YPair (fun i => us[i]?) (fun i => ws[i]?))) (q : ∀ m1 H1, Grow m H m1 H1 → G H1) :
    WkI Γ L m H (List.zipWith (fun u v => .tup [u, v]) xs ys) J := by
  have hl : (List.zipWith (fun u v => Vl.tup [u, v]) xs ys).length = min us.length ws.length := by
    rw [List.length_zipWith, r.length, r'.length]
  refine ⟨G, _, by rw [hl]; exact w, q, fun L1 e i m1 h1 H1 x H1' hi g rh y => ?_⟩
  rw [hl] at hi
  have hi1 : i < xs.length := by rw [r.length]; omega
  have hi2 : i < ys.length := by rw [r'.length]; omega
  obtain ⟨u, e1, e2⟩ := r.get (List.getElem?_eq_getElem hi1)
  obtain ⟨u', e1', e2'⟩ := r'.get (List.getElem?_eq_getElem hi2)
  obtain ⟨a1, a2, a3⟩ := wk_pair (p := xs[i]) (q := ys[i]) rh y (fun v ev => by
    rw [e1] at ev
    cases ev
    exact (e2.to1 e).grow g) (fun v ev => by
    rw [e1'] at ev
    cases ev
    exact (e2'.to1 e).grow g)
  refine ⟨a1, a2, _, ?_, a3⟩
  rw [List.getElem?_zipWith, List.getElem?_eq_getElem hi1, List.getElem?_eq_getElem hi2]
theorem walk_zipT {K : PySem.W.Frag} {a b : Addr} {xs ys : List V} : Walk (RZ.ItzT K a b) (min xs.length ys.length) (fun H => SqT K H a xs ∧ SqT K H b ys) (YPair (fun i => xs[i]?) (fun i => ys[i]?)) := by
  refine ⟨fun i _ hi q => ?_, fun _ q => ⟨xs, ys, q.1, q.2, by omega⟩, fun i H v H' _ q y => ?_⟩
  · have h1 : i < xs.length := by omega
    have h2 : i < ys.length := by omega
    exact ⟨xs, ys, xs[i], ys[i], q.1, q.2, by simp [h1], by simp [h2]⟩
  · obtain ⟨T, x, z, h1, h2, h3, h4, h5⟩ := y
    exact ⟨T, x, z, h1, h2, h3, h4 xs q.1, h5 ys q.2⟩
end
section
variable {X : Cx} {Γ : Gm} {W : WX} {tg e e2 e3 : Expr} {es : List Expr} {p pos : Pos} {ea eb : Env → Hh → R Vl} {el : Env → Hh → R (List Vl)}
theorem pi_seq {te : TE} (he : PE X e te) : PI X tg e (fun σ H R => te σ H fun x H1 => ∃ a, x = .ref a ∧ (((∃ xs, SqL X.K H1 a xs) ∧ R (Itl X.K a) H1) ∨ ((∃ xs, SqT X.K H1 a xs) ∧ R (Itt X.K a) H1))) := by
  refine ⟨fun pins s σ H R I h => ?_⟩
  refine thn (he.run pins s σ H _ I h) fun v s1 ⟨x, H1, I1, r1, q1⟩ => ?_
  obtain ⟨a, e, q⟩ := q1
  subst e
  cases r1
  rcases q with ⟨⟨xs, hq⟩, q⟩ | ⟨⟨xs, hq⟩, q⟩
  · obtain ⟨its, rv, p, hz⟩ := I1.list hq
    refine wpAny_pyIter_list p.isList ?_
    refine ⟨s1.heap.objs.size, [s1.heap.objs.size], _, _, H1, rfl, I1.kept (t' := s1.toks) fun b o e => Heap.get?_push_of_some _ e, turn_list a _, ⟨_, Heap.get?_push_size _ rfl, rfl, rfl⟩, fun b hb => ?_, q⟩
    have e : b = s1.heap.objs.size := by simpa using hb
    subst e
    exact I1.fpOk (Nat.le_refl _) (I1.hok.fresh (Nat.le_refl _))
  · obtain ⟨its, rv, p, hz⟩ := I1.tuple hq
    refine wpAny_pyIter_tuple (show s1.heap.IsTuple a its.toArray from p) ?_
    refine ⟨s1.heap.objs.size, [s1.heap.objs.size], _, _, H1, rfl, I1.kept (t' := s1.toks) fun b o e => Heap.get?_push_of_some _ e, turn_tuple a _, ⟨_, Heap.get?_push_size _ rfl, rfl, rfl⟩, fun b hb => ?_, q⟩
    have e : b = s1.heap.objs.size := by simpa using hb
    subst e
    exact I1.fpOk (Nat.le_refl _) (I1.hok.fresh (Nat.le_refl _))
def overR (x : Vl) (h : Hh) : R Wk := match x with
  | .tup xs => .ok (.its xs) h
  | .lst xs => .ok (.its xs) h
  | .scr xs => .ok (.its xs) h
  | .ref n => match h[n]? with
    | some (.lst _) => .ok (.live n) h
    | _ => .bad
  | _ => .bad
theorem w_over (C : Cn X Γ W) (he : PE X e (tE Γ W ea)) : PI X tg e (tW Γ W fun env h => bnd (ea env h) overR) := by
  refine pi_imp (pi_seq he) fun σ H R hq => ?_
  obtain ⟨L, m, h, env, rh, re, k⟩ := hq
  rw [C.K]
  refine ⟨L, m, h, env, rh, re, k.bind fun m1 H1 x h1 u g1 rh1 rx k1 => ?_⟩
  unfold overR at k1
  split at k1
  · obtain ⟨a, us, e, q, r⟩ := rx
    exact ⟨a, e, .inr ⟨⟨us, q⟩, k1.now rh1 (wk_tup r q)⟩⟩
  · obtain ⟨a, us, e, q, n, _, r⟩ := rx
    exact ⟨a, e, .inl ⟨⟨us, SqL.of q⟩, k1.now rh1 (wk_list r (SqL.of q) (.inr n))⟩⟩
  · obtain ⟨a, us, e, q, r⟩ := rx
    exact ⟨a, e, .inl ⟨⟨us, (scr_sq ⟨_, rh1⟩ q).1⟩, k1.now rh1 (wk_scr ⟨_, rh1⟩ r q)⟩⟩
  · rename_i n
    obtain ⟨a, e, q⟩ := rx
    split at k1
    · rename_i l hl
      obtain ⟨us, e2, rr⟩ := rh1.at_ q hl
      exact ⟨a, e, .inl ⟨⟨us, SqL.of e2⟩, k1.now rh1 ⟨a, q, rfl⟩⟩⟩
    · exact k1.elim
  · exact k1.elim
def r1R (xs : List Vl) (h : Hh) : R Wk := match xs with
  | [.int b] => match decide (b.natAbs < 1000000000) with
    | true => .ok (.its (rangeL b.toNat 0 1)) h
    | false => .bad
  | [.int a, .int b] => match decide (a.natAbs < 1000000000) with
    | true => match decide (b.natAbs < 1000000000) with
      | true => .ok (.its (rangeL (b - a).toNat a 1)) h
      | false => .bad
    | false => .bad
  | [.int a, .int b, .int c] => match rng3 a b c with
    | some n => .ok (.its (rangeL n a c)) h
    | none => .bad
  | _ => .bad
theorem w_range1 (C : Cn X Γ W) (hg : Gl X "range") (hm : Γ.mg "range" = none) (ha : PE X e (tE Γ W ea)) (hst : noStars [e] = true) :
    PI X tg (.Call (.Name "range" p) [e] [] pos) (tW Γ W fun env h => bnd (bnd (ea env h) fun x h => bnd (.ok [] h) fun xs h => .ok (x :: xs) h) r1R) := by
  rw [← C.mg] at hm
  obtain ⟨h1, h2⟩ := noStars_cons hst
  refine pi_imp (pi_range1 hg hm (pa_cons ha pa_nil (star_cons h1)) (star_cons h1)) fun σ H R hq => ?_
  obtain ⟨L, m, h, env, rh, re, k⟩ := hq
  dsimp only at k
  rw [bnd_bnd] at k
  refine ⟨L, m, h, env, rh, re, k.bind fun m1 H1 x h1 u g1 rh1 rx k1 => ?_⟩
  replace k1 : okG Γ W L m1 H1 σ (rWk Γ L) (r1R [x] h1) R := k1
  cases x with
  | int b =>
    cases (show u = .int b from rx)
    replace k1 : okG Γ W L m1 H1 σ (rWk Γ L) (match decide (b.natAbs < 1000000000) with
      | true => .ok (.its (rangeL b.toNat 0 1)) h1
      | false => .bad) R := k1
    split at k1
    · rename_i hb
      have hb := of_decide_eq_true hb
      exact ⟨b, rfl, by omega, by omega, k1.now rh1 wk_range⟩
    · exact k1.elim
  | _ => exact (show False from k1).elim
theorem w_range2 (C : Cn X Γ W) (hg : Gl X "range") (hm : Γ.mg "range" = none) (ha : PE X e (tE Γ W ea)) (hb : PE X e2 (tE Γ W eb)) (hst : noStars [e, e2] = true) :
    PI X tg (.Call (.Name "range" p) [e, e2] [] pos) (tW Γ W fun env h => bnd (bnd (ea env h) fun x h => bnd (bnd (eb env h) fun x h => bnd (.ok [] h) fun xs h => .ok (x :: xs) h) fun xs h => .ok (x :: xs) h) r1R) := by
  rw [← C.mg] at hm
  obtain ⟨h1, h2⟩ := noStars_cons hst
  obtain ⟨h3, h4⟩ := noStars_cons h2
  have hs : starEach [e, e2] X.env = [(false, eval e X.env), (false, eval e2 X.env)] := by rw [star_cons h1, star_cons h3]; rfl
  refine pi_imp (pi_range2 hg hm (pa_cons ha (pa_cons hb pa_nil (star_cons h3)) (star_cons h1)) hs (star_cons h3)) fun σ H R hq => ?_
  obtain ⟨L, m, h, env, rh, re, k⟩ := hq
  dsimp only at k
  rw [bnd_bnd] at k
  refine ⟨L, m, h, env, rh, re, k.bind fun m1 H1 x h1 u g1 rh1 rx k1 => ?_⟩
  rw [bnd_bnd, bnd_bnd] at k1
  refine ⟨L, m1, h1, env, rh1, re.grow g1, k1.bind fun m2 H2 y h2 v g2 rh2 ry k2 => ?_⟩
  replace k2 : okG Γ W L m2 H2 σ (rWk Γ L) (r1R [x, y] h2) R := k2
  unfold r1R at k2
  split at k2
  · rename_i z
    cases z
  · rename_i a b z
    cases z
    cases (show u = .int _ from rx)
    cases (show v = .int _ from ry)
    split at k2
    · rename_i ha
      have ha := of_decide_eq_true ha
      split at k2
      · rename_i hb
        have hb := of_decide_eq_true hb
        exact ⟨_, _, rfl, ⟨by omega, by omega, by omega, by omega⟩, k2.now rh2 wk_range⟩
      · exact k2.elim
    · exact k2.elim
  · rename_i z
    cases z
  · exact k2.elim
theorem rng3_some {a b c : Int} {n : Nat} (e : rng3 a b c = some n) : RgC a b c n := by
  unfold rng3 at e
  split at e
  · rename_i h
    cases Option.some.inj e
    simp only [Bool.and_eq_true, decide_eq_true_eq] at h
    exact ⟨h.1.1, h.1.2, h.2, PyProof.Rows.rangeSize_toNat a b c⟩
  · cases e
theorem w_range3 {ec : Env → Hh → R Vl} (C : Cn X Γ W) (hg : Gl X "range") (hm : Γ.mg "range" = none) (ha : PE X e (tE Γ W ea)) (hb : PE X e2 (tE Γ W eb)) (hc : PE X e3 (tE Γ W ec)) (hst : noStars [e, e2, e3] = true) :
    PI X tg (.Call (.Name "range" p) [e, e2, e3] [] pos) (tW Γ W fun env h => bnd (bnd (ea env h) fun x h => bnd (bnd (eb env h) fun x h => bnd (bnd (ec env h) fun x h => bnd (.ok [] h) fun xs h => .ok (x :: xs) h) fun xs h => .ok (x :: xs) h) fun xs h => .ok (x :: xs) h) r1R) := by
  rw [← C.mg] at hm
  obtain ⟨h1, h2⟩ := noStars_cons hst
  obtain ⟨h3, h4⟩ := noStars_cons h2
  obtain ⟨h5, h6⟩ := noStars_cons h4
  refine pi_imp (pi_range3 hg hm (pa_cons ha (pa_cons hb (pa_cons hc pa_nil (star_cons h5)) (star_cons h3)) (star_cons h1)) (star_cons h1) (noStars_any h2)) fun σ H R hq => ?_
  obtain ⟨L, m, h, env, rh, re, k⟩ := hq
  dsimp only at k
  rw [bnd_bnd] at k
  refine ⟨L, m, h, env, rh, re, k.bind fun m1 H1 x h1 u g1 rh1 rx k1 => ?_⟩
  rw [bnd_bnd, bnd_bnd] at k1
  refine ⟨L, m1, h1, env, rh1, re.grow g1, k1.bind fun m2 H2 y h2 v g2 rh2 ry k2 => ?_⟩
  rw [bnd_bnd, bnd_bnd] at k2
  refine ⟨L, m2, h2, env, rh2, (re.grow g1).grow g2, k2.bind fun m3 H3 z h3 w g3 rh3 rz k3 => ?_⟩
  replace k3 : okG Γ W L m3 H3 σ (rWk Γ L) (r1R [x, y, z] h3) R := k3
  unfold r1R at k3
  split at k3
  · rename_i z
    cases z
  · rename_i z
    cases z
  · rename_i z
    cases z
    cases (show u = .int _ from rx)
    cases (show v = .int _ from ry)
    cases (show w = .int _ from rz)
    split at k3
    · rename_i n hn
      exact ⟨_, _, _, n, rfl, rng3_some hn, k3.now rh3 wk_rangeC⟩
    · exact k3.elim
  · exact k3.elim
def enumR (x : Vl) (h : Hh) : R Wk := match frq x with
  | some (_, xs) => .ok (.its (List.zipWith (fun i v => .tup [i, v]) (rangeL xs.length 0 1) xs)) h
  | none => .bad
theorem frq_list {L m : List Addr} {H : Hp} {h : Hh} {x : Vl} {u : V} {xs : List Vl} (rh : RepH Γ L m h H) (r : RepV Γ L m H x u) (e : frq x = some (false, xs)) : ∃ a us, u = .ref a ∧ SqL Γ.K H a us ∧ RepL Γ L m H xs us ∧ ∀ m1 H1, Grow m H m1 H1 → SqL Γ.K H1 a us := by
  unfold frq at e
  split at e
  · cases e
  · cases Option.some.inj e
    obtain ⟨a, us, e, q, n, _, r⟩ := r
    exact ⟨a, us, e, SqL.of q, r, fun m1 H1 g => sqL_grow g (SqL.of q) n⟩
  · cases Option.some.inj e
    obtain ⟨a, us, e, q, r⟩ := r
    exact ⟨a, us, e, (scr_sq ⟨_, rh⟩ q).1, r, (scr_sq ⟨_, rh⟩ q).2⟩
  · cases e
theorem frq_tup {L m : List Addr} {H : Hp} {x : Vl} {u : V} {xs : List Vl} (r : RepV Γ L m H x u) (e : frq x = some (true, xs)) : ∃ a us, u = .ref a ∧ SqT Γ.K H a us ∧ RepL Γ L m H xs us := by
  unfold frq at e
  split at e
  · cases Option.some.inj e
    obtain ⟨a, us, e, q, r⟩ := r
    exact ⟨a, us, e, q, r⟩
  · cases e
  · cases e
  · cases e
theorem w_enumL {elts : List Expr} {kk : Nat} {tpos : Pos} (C : Cn X Γ W) (hg : Gl X "enumerate") (hm : Γ.mg "enumerate" = none) (ha : PE X e (tE Γ W ea)) (hst : noStars [e] = true) :
    PI X (.Tuple elts kk tpos) (.Call (.Name "enumerate" p) [e] [] pos) (tW Γ W fun env h => bnd (ea env h) enumR) := by
  rw [← C.mg] at hm
  obtain ⟨h1, h2⟩ := noStars_cons hst
  refine pi_imp (EnT.pi_enA hg hm (pa_cons ha pa_nil (star_cons h1)) (star_cons h1)) fun σ H R hq => ?_
  obtain ⟨L, m, h, env, rh, re, k⟩ := hq
  rw [C.K]
  refine ⟨L, m, h, env, rh, re, k.bind fun m1 H1 x h1 u g1 rh1 rx k1 => ?_⟩
  unfold enumR at k1
  split at k1
  · rename_i b xs hx
    cases b with
    | false =>
      obtain ⟨a, us, rfl, q, r, st⟩ := frq_list rh1 rx hx
      exact ⟨a, us, rfl, .inl ⟨q, k1.now rh1 (wk_enum r st)⟩⟩
    | true =>
      obtain ⟨a, us, rfl, q, r⟩ := frq_tup rx hx
      exact ⟨a, us, rfl, .inr ⟨q, k1.now rh1 (wk_enT r q)⟩⟩
  · exact k1.elim
def zipR (x y : Vl) (h : Hh) : R Wk := match frq x with
  | some (_, xs) => match frq y with
    | some (_, ys) => .ok (.its (List.zipWith (fun u v => .tup [u, v]) xs ys)) h
    | none => .bad
  | none => .bad
theorem frq_sq {L m : List Addr} {H : Hp} {h : Hh} {x : Vl} {v : V} {k : Bool} {xs : List Vl} (rh : RepH Γ L m h H) (rx : RepV Γ L m H x v) (e : frq x = some (k, xs)) : ∃ (a : Addr) (us : List V), v = .ref a ∧ ZpG.SqK k Γ.K H a us ∧ RepL Γ L m H xs us ∧ ∀ m1 H1, Grow m H m1 H1 → ZpG.SqK k Γ.K H1 a us := by
  cases k with
  | false =>
    obtain ⟨a, us, e1, q, r, st⟩ := frq_list rh rx e
    exact ⟨a, us, e1, q, r, st⟩
  | true =>
    obtain ⟨a, us, e1, q, r⟩ := frq_tup rx e
    exact ⟨a, us, e1, q, r, fun m1 H1 g => sqT_grow g q⟩
theorem w_zip {elts : List Expr} {kk : Nat} {tpos : Pos} (C : Cn X Γ W) (hg : Gl X "zip") (hm : Γ.mg "zip" = none) (ha : PE X e (tE Γ W ea)) (hb : PE X e2 (tE Γ W eb)) (hst : noStars [e, e2] = true) :
    PI X (.Tuple elts kk tpos) (.Call (.Name "zip" p) [e, e2] [] pos) (tW Γ W fun env h => bnd (ea env h) fun x h => bnd (eb env h) fun y h => zipR x y h) := by
  rw [← C.mg] at hm
  obtain ⟨h1, h2⟩ := noStars_cons hst
  obtain ⟨h3, h4⟩ := noStars_cons h2
  refine pi_imp (ZpG.pi_zipG hg hm (pa_cons ha (pa_cons hb pa_nil (star_cons h3)) (star_cons h1)) (star_cons h1) (noStars_any h2)) fun σ H R hq => ?_
  obtain ⟨L, m, h, env, rh, re, k⟩ := hq
  rw [C.K]
  refine ⟨L, m, h, env, rh, re, k.bind fun m1 H1 x h1 u g1 rh1 rx k1 => ⟨L, m1, h1, env, rh1, re.grow g1, k1.bind fun m2 H2 y h2 v g2 rh2 ry k2 => ?_⟩⟩
  have rx := RepV.grow g2 rx
  unfold zipR at k2
  split at k2
  · rename_i k xs hx
    split at k2
    · rename_i j ys hy
      obtain ⟨a, us, rfl, q, r, st⟩ := frq_sq rh2 rx hx
      obtain ⟨b, ws, rfl, q', r', st'⟩ := frq_sq rh2 ry hy
      exact ⟨a, b, us, ws, k, j, rfl, q, q', k2.now rh2 (wk_zip0 r r' ZpG.walk_zipG fun m1 H1 g => ⟨st m1 H1 g, st' m1 H1 g⟩)⟩
    · exact k2.elim
  · exact k2.elim
end
end Mi
set_option Elab.async false
set_option linter.all false
set_option maxRecDepth 100000
set_option maxHeartbeats 4000000
namespace Mi
open PySem PySem.Spec PyProof.Rows L2
section
variable {Γ : Gm} {L m : List Addr} {H : Hp} {env : Env} {σ : L2.St}
theorem RepE.put {v : Vl} {u : V} (r : RepE Γ L m H env σ) (rv : RepV Γ L m H v u) (i : Nat) : RepE Γ L m H (putE env i v) (σ.set i (some u)) := by
  refine ⟨by unfold putE; rw [List.length_set, List.length_set]; exact r.1, fun j w e => ?_⟩
  unfold putE at e
  by_cases hj : i = j
  · subst hj
    by_cases hl : i < env.length
    · rw [List.getElem?_set_self hl] at e
      cases e
      exact ⟨u, by rw [List.getElem?_set_self (by rw [← r.1]; exact hl)], rv⟩
    · rw [List.getElem?_eq_none (by rw [List.length_set]; omega)] at e
      cases e
  · rw [List.getElem?_set_ne hj] at e
    obtain ⟨w', h1, h2⟩ := r.2 j w e
    exact ⟨w', by rw [List.getElem?_set_ne hj]; exact h1, h2⟩
theorem RepE.wipe (r : RepE Γ L m H env σ) (vs : List Nat) : RepE Γ L m H (wipeE env vs) (L2.wipe σ vs) := by
  induction vs with
  | nil => exact r
  | cons v vs ih =>
    refine ⟨?_, fun j w e => ?_⟩
    · show ((wipeE env vs).set v none).length = ((L2.wipe σ vs).set v none).length
      rw [List.length_set, List.length_set]
      exact ih.1
    · have e : ((wipeE env vs).set v none)[j]? = some (some w) := e
      show ∃ u, ((L2.wipe σ vs).set v none)[j]? = some (some u) ∧ _
      by_cases hj : v = j
      · subst hj
        by_cases hl : v < (wipeE env vs).length
        · rw [List.getElem?_set_self hl] at e
          cases e
        · rw [List.getElem?_eq_none (by rw [List.length_set]; omega)] at e
          cases e
      · rw [List.getElem?_set_ne hj] at e ⊢
        exact ih.2 j w e
theorem RepE.apart {D : Addr} (r : RepE Γ L m H env σ) (hD : H D = none) : RepE Γ (D :: L) m H env σ := ⟨r.1, fun i v e => let ⟨u, h1, h2⟩ := r.2 i v e; ⟨u, h1, h2.apart hD⟩⟩
end
theorem wipe_none {σ : L2.St} {i : Nat} : ∀ {vs : List Nat}, i ∈ vs → (wipe σ vs)[i]? = none ∨ (wipe σ vs)[i]? = some none
  | v :: vs, h => by
    show ((wipe σ vs).set v none)[i]? = none ∨ ((wipe σ vs).set v none)[i]? = some none
    by_cases hv : v = i
    · subst hv
      by_cases hl : v < (wipe σ vs).length
      · exact .inr (List.getElem?_set_self hl)
      · exact .inl (List.getElem?_eq_none (by rw [List.length_set]; omega))
    · rw [List.getElem?_set_ne hv]
      exact wipe_none ((List.mem_cons.mp h).resolve_left fun z => hv z.symm)
theorem wipe_eq {σ τ : L2.St} {vs : List Nat} (hl : σ.length = τ.length) (h : ∀ i, i ∉ vs → σ[i]? = τ[i]?) : wipe σ vs = wipe τ vs := by
  apply List.ext_getElem?
  intro i
  by_cases hi : i ∈ vs
  · have l1 := wipe_length σ vs
    have l2 := wipe_length τ vs
    rcases wipe_none (σ := σ) hi with a | a <;> rcases wipe_none (σ := τ) hi with b | b
    · rw [a, b]
    · have := (List.getElem?_eq_some_iff.mp b).1
      rw [List.getElem?_eq_none_iff] at a
      omega
    · have := (List.getElem?_eq_some_iff.mp a).1
      rw [List.getElem?_eq_none_iff] at b
      omega
    · rw [a, b]
  · rw [wipe_out hi, wipe_out hi]
    exact h i hi
theorem wipe_wipe (σ : L2.St) (vs : List Nat) : wipe (wipe σ vs) vs = wipe σ vs := wipe_eq (wipe_length σ vs) fun i hi => wipe_out hi
def slots : Tg → List Nat
  | .n i => [i]
  | .t is => is
def TgOk (X : Cx) (Γ : Gm) (tg : Tg) (target : Expr) (g : TG) : Prop := PG X target g ∧ ∀ (L m : List Addr) (h : Hh) (H : Hp) (env env' : Env) (σ : L2.St) (x : Vl) (v : V) (Q : L2.St → Hp → Prop), RepH Γ L m h H → RepE Γ L m H env σ → RepV Γ L m H x v → tgV tg x env = some env' →
  (∀ σ', RepE Γ L m H env' σ' → σ'.length = σ.length → (∀ i, i ∉ slots tg → σ'[i]? = σ[i]?) → Q σ' H) → g v σ H Q
section
variable {X : Cx} {Γ : Gm} {W : WX}
theorem tg_name {i : Nat} {x : Str} {pos : Pos} (hN : X.N.Nodup) (hi : X.N[i]? = some x) (hx : Loc X.env.scope x) (hf : X.fn x = true ∨ X.env.scope.names.lookup x = some .local) : TgOk X Γ (.n i) (.Name x pos) (gName i) := by
  refine ⟨pg_name hN hi hx hf, fun L m h H env env' σ v u Q rh re rv e k => ?_⟩
  cases Option.some.inj e
  exact k _ (re.put rv i) (List.length_set ..) fun j hj => List.getElem?_set_ne fun z => hj (List.mem_singleton.mpr z.symm)
def TgsOk (X : Cx) (Γ : Gm) (is : List Nat) (ts : List Expr) (g : TGs) : Prop := PGs X ts g ∧ ∀ (L m : List Addr) (h : Hh) (H : Hp) (env env' : Env) (σ : L2.St) (xs : List Vl) (vs : List V) (Q : L2.St → Hp → Prop), RepH Γ L m h H → RepE Γ L m H env σ → RepL Γ L m H xs vs → putEs env is xs = some env' →
  (∀ σ', RepE Γ L m H env' σ' → σ'.length = σ.length → (∀ i, i ∉ is → σ'[i]? = σ[i]?) → Q σ' H) → g vs σ H Q
theorem tgs_nil : TgsOk X Γ [] [] gNil := by
  refine ⟨pgs_nil, fun L m h H env env' σ xs vs Q rh re rv e k => ?_⟩
  cases xs with
  | nil =>
    cases Option.some.inj e
    exact ⟨rep0 rv, k σ re rfl fun _ _ => rfl⟩
  | cons _ _ => cases e
theorem tgs_cons {i : Nat} {is : List Nat} {t : Expr} {ts : List Expr} {g : TG} {gs : TGs} (h1 : TgOk X Γ (.n i) t g) (h2 : TgsOk X Γ is ts gs) (hs : ∀ v σ H (Q Q' : L2.St → Hp → Prop), g v σ H Q → (∀ σ' H', Q σ' H' → Q' σ' H') → g v σ H Q') (hst : isStar t = false) : TgsOk X Γ (i :: is) (t :: ts) (gCons g gs) := by
  refine ⟨pgs_cons h1.1 h2.1 (by cases t <;> first | rfl | cases hst), fun L m h H env env' σ xs vs Q rh re rv e k => ?_⟩
  cases xs with
  | nil => cases e
  | cons x xs =>
    cases vs with
    | nil => exact rv.elim
    | cons v vs =>
      have e : putEs (putE env i x) is xs = some env' := e
      refine ⟨v, vs, rfl, h1.2 L m h H env _ σ x v _ rh re rv.1 rfl fun σ1 re1 l1 f1 => ?_⟩
      refine h2.2 L m h H _ env' σ1 xs vs Q rh re1 rv.2 e fun σ2 re2 l2 f2 => k σ2 re2 (l2.trans l1) fun j hj => ?_
      rw [f2 j fun z => hj (List.mem_cons_of_mem _ z)]
      exact f1 j fun z => hj (List.mem_cons.mpr (.inl (List.mem_singleton.mp z)))
theorem assign_plain {env : PySem.Env} : ∀ {ts : List Expr}, noStars ts = true → (assignEach ts env).length = ts.length ∧ ∀ p ∈ assignEach ts env, p.1 = false
  | [], _ => ⟨rfl, fun _ h => nomatch h⟩
  | t :: ts, h => by
    obtain ⟨h1, h2⟩ := noStars_cons h
    obtain ⟨a, b⟩ := assign_plain (env := env) h2
    have e : assignEach (t :: ts) env = (false, assign t env) :: assignEach ts env := by cases t <;> first | rfl | cases h1
    rw [e]
    exact ⟨congrArg (· + 1) a, fun p hp => (List.mem_cons.mp hp).elim (fun z => by rw [z]) (b p)⟩
theorem assign_find {env : PySem.Env} {ts : List Expr} (h : noStars ts = true) : (assignEach ts env).findIdx? (·.1) = none := by
  rw [List.findIdx?_eq_none_iff]
  intro p hp
  exact (assign_plain h).2 p hp
theorem putEs_len : ∀ {env env' : Env} {is : List Nat} {xs : List Vl}, putEs env is xs = some env' → xs.length = is.length
  | _, _, [], [], _ => rfl
  | env, _, i :: is, x :: xs, e => congrArg (· + 1) (putEs_len (env := putE env i x) (is := is) (xs := xs) e)
  | _, _, [], _ :: _, e => by cases e
  | _, _, _ :: _, [], e => by cases e
theorem tg_tup {is : List Nat} {ts : List Expr} {gs : TGs} {k : Nat} {pos : Pos} (C : Cn X Γ W) (h : TgsOk X Γ is ts gs) (hl : ts.length = is.length) (hst : noStars ts = true) : TgOk X Γ (.t is) (.Tuple ts k pos) (gTup X.K is.length gs) := by
  refine ⟨pg_tup C.calm h.1 ((assign_plain hst).1.trans hl) (assign_find hst), fun L m h' H env env' σ x v Q rh re rv e kk => ?_⟩
  unfold tgV at e
  dsimp only at e
  split at e
  · rename_i xs
    obtain ⟨a, us, rfl, q, r⟩ := rv
    rw [C.K]
    refine ⟨a, us, rfl, q, ?_, h.2 L m h' H env env' σ xs us Q rh re r e kk⟩
    rw [← r.length]
    exact putEs_len e
  · cases e
theorem Grow.updD {m m1 : List Addr} {H H1 : Hp} {D : Addr} {o : HO} (hD : H D = none) (g : Grow m H m1 H1) : Grow m H m1 (upd H1 D o) :=
  ⟨g.ext, fun a u e n t => by rw [upd_ne (ne_of_none e hD)]; exact g.keep a u e n t, fun a u e => by rw [upd_ne (ne_of_none e hD)]; exact g.tup a u e, fun a u v e => by rw [upd_ne (ne_of_none e hD)]; exact g.frz a u v e, fun a u e => by rw [upd_ne (ne_of_none e hD)]; exact g.own a u e, fun a ps e => by rw [upd_ne (ne_of_none e hD)]; exact g.tbl a ps e⟩
theorem RepH.chg {Γ : Gm} {L m : List Addr} {H : Hp} {h : Hh} {D : Addr} {us us' : List V} (r : RepH Γ (D :: L) m h H) (e : H D = some (.lst us)) : RepH Γ (D :: L) m h (upd H D (.lst us')) where
  len := r.len
  nd := r.nd
  ap := r.ap
  ob := fun i a o e1 e2 => by
    have c := Chg.upd (us' := us') e
    have na : a ≠ D := fun z => r.ap a (List.mem_of_getElem? e1) (by rw [z]; exact List.mem_cons_self)
    exact (r.ob i a o e1 e2).map (fun _ _ => RepV.chg c) (fun _ _ => RepL.chg c) (upd_ne na) fun C dx vs s n1 n2 => ⟨slAt_chg c s, n1, n2⟩
  res := fun a ha => by
    by_cases z : a = D
    · exact ⟨us', by rw [z, upd_same]⟩
    · obtain ⟨ws, q⟩ := r.res a ha
      exact ⟨ws, by rw [upd_ne z]; exact q⟩
  tb := tabs_but r.tb e (fun _ z => nomatch z) (fun _ _ => lst_code) fun b n => upd_ne n
abbrev W0 : WX := fun _ _ _ _ => False
def CSt (Γ : Gm) (W : WX) (L : List Addr) (D : Addr) (m1 : List Addr) (H1 : Hp) (σ : L2.St) (Q : VK) (K : List Vl → Hh → R (List Vl)) (H' : Hp) : Prop :=
  ∃ m2 h2 acc us, Grow m1 H1 m2 H' ∧ RepH Γ (D :: L) m2 h2 H' ∧ D ∉ m2 ∧ H' D = some (.lst us) ∧ RepL Γ (D :: L) m2 H' acc us ∧ okF Γ W L m1 H1 σ (K acc h2) Q
def stepR (turn : Vl → Hh → R (Option Vl)) (K : List Vl → Hh → R (List Vl)) (x : Vl) (acc : List Vl) (h : Hh) : R (List Vl) := bnd (noX (turn x h)) fun o h1 => match o with
  | some y => if acc.length < line then K (acc ++ [y]) h1 else .bad
  | none => K acc h1
def turnR (tg : Tg) (own : List Nat) (env : Env) (ec : Env → Hh → R Bool) (ee : Env → Hh → R Vl) (x : Vl) (h : Hh) : R (Option Vl) := match tgV tg x (wipeE env own) with
  | some env' => bnd (ec env' h) fun b h => match b with
    | true => bnd (ee env' h) fun y h => .ok (some y) h
    | false => .ok none h
  | none => .bad
theorem comp_step {tg : Tg} {target : Expr} {X' : Cx} {g : TG} {own : List Nat} {env : Env} {ec : Env → Hh → R Bool} {ee : Env → Hh → R Vl} {L m1 m2 : List Addr} {D : Addr} {H1 H' H'' : Hp} {σ : L2.St} {Q : VK} {K : List Vl → Hh → R (List Vl)} {h1 h2 : Hh} {acc : List Vl} {us : List V} {x : V} {vl : Vl} {Nx : Hp → Prop}
    (hg : TgOk X' Γ tg target g) (ho : ∀ i ∈ slots tg, i ∈ own) (hD : H1 D = none) (rh1 : RepH Γ L m1 h1 H1) (re : RepE Γ L m1 H1 env σ) (g1 : Grow m1 H1 m2 H') (nD : D ∉ m2) (eD : H' D = some (.lst us)) (ra : RepL Γ (D :: L) m2 H' acc us) (rh' : RepH Γ (D :: L) m2 h2 H')
    (g2 : Grow m2 H' m2 H'') (rh : RepH Γ (D :: L) m2 h2 H'') (rx : RepV Γ (D :: L) m2 H'' vl x) (k : okF Γ W L m1 H1 σ (stepR (turnR tg own env ec ee) K vl acc h2) Q) (hn : ∀ H3, CSt Γ W L D m1 H1 σ Q K H3 → Nx H3) :
    g x (wipe σ own) H'' fun σ2 H2 => wipe σ2 own = wipe σ own ∧ tB' Γ W0 ec σ2 H2 fun b H3 => if b = true then tE Γ W0 ee σ2 H3 fun y H4 => ∃ acc, H4 D = some (.lst acc) ∧ acc.length < sizeLine ∧ Nx (upd H4 D (.lst (acc ++ [y]))) else Nx H3 := by
  have gw : Grow m1 H1 m2 H'' := g1.tr rh' g2
  have re2 : RepE Γ (D :: L) m2 H'' (wipeE env own) (wipe σ own) := ((re.apart hD).grow gw).wipe own
  unfold stepR turnR at k
  split at k
  · rename_i env' he
    refine hg.2 (D :: L) m2 h2 H'' _ env' (wipe σ own) vl x _ rh re2 rx he fun σ2 re3 l3 f3 => ⟨?_, ?_⟩
    · rw [← wipe_wipe σ own]
      exact wipe_eq l3 fun i hi => f3 i fun z => hi (ho i z)
    · refine ⟨D :: L, m2, h2, env', rh, re3, ?_⟩
      cases hc : ec env' h2 with
      | exc c p h3 =>
        rw [hc] at k
        exact k.elim
      | bad =>
        rw [hc] at k
        exact k.elim
      | ok b h3 =>
        rw [hc] at k
        intro m3 H3 u g3 rh3 e
        cases e
        have keepD : H3 D = some (.lst us) := g3.keep D _ (g2.keep D _ eD nD fun _ z => nomatch z) nD fun _ z => nomatch z
        have nD3 : D ∉ m3 := fun z => rh3.ap D z List.mem_cons_self
        have ra3 := (ra.grow' g2).grow' g3
        cases b with
        | false =>
          rw [if_neg Bool.false_ne_true]
          exact hn H3 ⟨m3, h3, acc, us, gw.tr rh g3, rh3, nD3, keepD, ra3, k⟩
        | true =>
          rw [if_pos rfl]
          refine ⟨D :: L, m3, h3, env', rh3, re3.grow g3, ?_⟩
          cases hee : ee env' h3 with
          | exc c p h4 =>
            replace k : okF Γ W L m1 H1 σ (bnd (noX (bnd (ee env' h3) fun y h => .ok (some y) h)) fun o h1 => match o with
              | some y => if acc.length < line then K (acc ++ [y]) h1 else .bad
              | none => K acc h1) Q := k
            rw [hee] at k
            exact k.elim
          | bad =>
            replace k : okF Γ W L m1 H1 σ (bnd (noX (bnd (ee env' h3) fun y h => .ok (some y) h)) fun o h1 => match o with
              | some y => if acc.length < line then K (acc ++ [y]) h1 else .bad
              | none => K acc h1) Q := k
            rw [hee] at k
            exact k.elim
          | ok y h4 =>
            replace k : okF Γ W L m1 H1 σ (bnd (noX (bnd (ee env' h3) fun y h => .ok (some y) h)) fun o h1 => match o with
              | some y => if acc.length < line then K (acc ++ [y]) h1 else .bad
              | none => K acc h1) Q := k
            rw [hee] at k
            replace k : okF Γ W L m1 H1 σ (if acc.length < line then K (acc ++ [y]) h4 else .bad) Q := k
            intro m4 H4 uy g4 rh4 ry
            split at k
            · rename_i hz
              have keep4 : H4 D = some (.lst us) := g4.keep D _ keepD nD3 fun _ z => nomatch z
              have nD4 : D ∉ m4 := fun z => rh4.ap D z List.mem_cons_self
              have c := Chg.upd (us' := us ++ [uy]) keep4
              refine ⟨us, keep4, by rw [← ra.length, ← line_eq]; exact hz, hn _ ⟨m4, h4, acc ++ [y], us ++ [uy], Grow.updD hD ((gw.tr rh g3).tr rh3 g4), rh4.chg keep4, nD4, upd_same, ?_, k⟩⟩
              exact ((ra3.grow' g4).chg c).append ⟨ry.chg c, trivial⟩
            · exact k.elim
  · exact k.elim
theorem comp_te {tg : Tg} {target : Expr} {g : TG} {own : List Nat} {ec : Env → Hh → R Bool} {ee : Env → Hh → R Vl} {ew : Env → Hh → R Wk} (X' : Cx) (hg : TgOk X' Γ tg target g) (ho : ∀ i ∈ slots tg, i ∈ own) {σ : L2.St} {H : Hp} {Q : VK}
    (hq : tF Γ W (fun env h => bnd (ew env h) fun w h => walkC (turnR tg own env ec ee) w h) σ H Q) : tLc (tW Γ W ew) g (tB' Γ W0 ec) (tE Γ W0 ee) own σ H Q := by
  obtain ⟨L, m, h, env, rh, re, k⟩ := hq
  refine ⟨L, m, h, env, rh, re, okF.bind rh k fun m1 H1 w h1 J g1 rh1 rw1 k1 => fun D hD => ?_⟩
  have re1 := re.grow g1
  have out := rh1.out hD
  have start : ∀ {K : List Vl → Hh → R (List Vl)}, okF Γ W L m1 H1 σ (K [] h1) Q → CSt Γ W L D m1 H1 σ Q K (upd H1 D (.lst [])) := fun {K} k => ⟨m1, h1, [], [], Grow.fresh hD, rh1.reserve hD, out.1, upd_same, trivial, k⟩
  have fin : ∀ {K : List Vl → Hh → R (List Vl)} {H' : Hp}, (∀ acc h, K acc h = .ok acc h) → CSt Γ W L D m1 H1 σ Q K H' → Q (.ref D) H' := fun {K H'} e ⟨m2, h2, acc, us, g, rh, nD, eD, ra, k⟩ => by
    rw [e] at k
    exact k m2 H' D us g hD nD out.2 eD ra rh
  cases w with
  | its xs =>
    obtain ⟨G, Y, wk, st, yl⟩ := rw1
    refine lc_it wk (fun i H' => CSt Γ W L D m1 H1 σ Q (fun acc h => compL (turnR tg own env ec ee) (xs.drop i) acc h) H') (start k1) (fun i H' _ z => let ⟨m2, h2, acc, us, g, _⟩ := z; st m2 H' g) (fun i x H' H'' hi z y => ?_) fun H' z => ?_
    · obtain ⟨m2, h2, acc, us, g, rh, nD, eD, ra, k⟩ := z
      obtain ⟨g', rh', vl, ev, rv⟩ := yl (D :: L) (.inr ⟨D, hD, rfl⟩) i m2 h2 H' x H'' hi g rh y
      have ed : xs.drop i = vl :: xs.drop (i + 1) := by
        rw [List.drop_eq_getElem_cons hi]
        rw [List.getElem?_eq_getElem hi] at ev
        rw [Option.some.inj ev]
      rw [ed] at k
      exact comp_step (K := fun acc h => compL (turnR tg own env ec ee) (xs.drop (i + 1)) acc h) hg ho hD rh1 re1 g nD eD ra rh g' rh' rv k fun H3 z => z
    · refine fin (K := fun acc h => compL (turnR tg own env ec ee) (xs.drop xs.length) acc h) (fun acc h => ?_) z
      rw [List.drop_length]
      rfl
  | live n =>
    obtain ⟨a, ea, rfl⟩ := rw1
    have k1 : okF Γ W L m1 H1 σ (compN (turnR tg own env ec ee) n fuelW 0 [] h1) Q := k1
    refine ⟨fun i mm H' => CSt Γ W L D m1 H1 σ Q (fun acc h => compN (turnR tg own env ec ee) n mm i acc h) H', ⟨fuelW, start k1⟩, fun i mm H' z => ?_⟩
    obtain ⟨m2, h2, acc, us, g, rh, nD, eD, ra, k⟩ := z
    cases mm with
    | zero => exact k.elim
    | succ mm =>
      have e2 := g.get ea
      replace k : okF Γ W L m1 H1 σ (match h2[n]? with
        | some (.lst ys) => match ys[i]? with
          | some x => stepR (turnR tg own env ec ee) (fun acc h => compN (turnR tg own env ec ee) n mm (i + 1) acc h) x acc h2
          | none => .ok acc h2
        | _ => .bad) Q := k
      split at k
      · rename_i ys hy
        obtain ⟨ws, e3, rr⟩ := rh.at_ e2 hy
        split at k
        · rename_i x hx
          obtain ⟨u, eu, ru⟩ := rr.get hx
          refine .inr ⟨⟨ws, u, SqL.of e3, eu⟩, _, fun H3 z => ⟨mm, Nat.lt_succ_self _, z⟩, fun v H'' y => ?_⟩
          obtain ⟨rfl, y⟩ := y
          have := y ws (SqL.of e3)
          rw [eu] at this
          cases this
          exact comp_step (K := fun acc h => compN (turnR tg own env ec ee) n mm (i + 1) acc h) hg ho hD rh1 re1 g nD eD ra rh (Grow.refl _ _) rh ru k fun H3 z => z
        · rename_i hx
          refine .inl ⟨⟨ws, SqL.of e3, ?_⟩, k m2 H' D us g hD nD out.2 eD ra rh⟩
          rw [← rr.length]
          exact List.getElem?_eq_none_iff.mp hx
      · exact k.elim
def okS (Γ : Gm) (W : WX) (L m : List Addr) (H : Hp) (r : R Oc) (D : Ends) : Prop :=
  match r with
  | .ok (.nx env) h => ∀ m' H' σ', Grow m H m' H' → RepH Γ L m' h H' → RepE Γ L m' H' env σ' → D.nx σ' H'
  | .ok (.bk env) h => ∀ m' H' σ', Grow m H m' H' → RepH Γ L m' h H' → RepE Γ L m' H' env σ' → D.bk σ' H'
  | .ok (.ct env) h => ∀ m' H' σ', Grow m H m' H' → RepH Γ L m' h H' → RepE Γ L m' H' env σ' → D.ct σ' H'
  | .ok (.rt v) h => ∀ m' H' u, Grow m H m' H' → RepH Γ L m' h H' → RepV Γ L m' H' v u → D.rt u H'
  | .exc c p h => ∀ m' H' d σ', Grow m H m' H' → RepH Γ L m' h H' → RepX Γ L m' H' c p d → W (.ref (Γ.xa c)) d σ' H'
  | .bad => False
def tS (Γ : Gm) (W : WX) (ev : Env → Hh → R Oc) : TS := fun D σ H => ∃ L m h env, RepH Γ L m h H ∧ RepE Γ L m H env σ ∧ okS Γ W L m H (ev env h) D
theorem okS.later {L m m1 : List Addr} {H H1 : Hp} {h1 : Hh} {r : R Oc} {D : Ends} (k : okS Γ W L m H r D) (g : Grow m H m1 H1) (rh : RepH Γ L m1 h1 H1) : okS Γ W L m1 H1 r D := by
  cases r with
  | ok a h => cases a with
    | nx env => exact fun m' H' σ' g' => k m' H' σ' (g.tr rh g')
    | bk env => exact fun m' H' σ' g' => k m' H' σ' (g.tr rh g')
    | ct env => exact fun m' H' σ' g' => k m' H' σ' (g.tr rh g')
    | rt v => exact fun m' H' σ' g' => k m' H' σ' (g.tr rh g')
  | exc c p h => exact fun m' H' d σ' g' => k m' H' d σ' (g.tr rh g')
  | bad => exact k
theorem okS.bind {α β : Type} {rel : List Addr → Hp → α → β → Prop} {L m : List Addr} {H : Hp} {σ : L2.St} {r : R α} {f : α → Hh → R Oc} {D : Ends} {Q' : β → Hp → Prop} (k : okS Γ W L m H (bnd r f) D)
    (st : ∀ m1 H1 a h1 u, Grow m H m1 H1 → RepH Γ L m1 h1 H1 → rel m1 H1 a u → okS Γ W L m1 H1 (f a h1) D → Q' u H1) : okG Γ W L m H σ rel r Q' := by
  cases r with
  | ok a h => exact fun m' H' u g rh ru => st m' H' a h u g rh ru (okS.later k g rh)
  | exc c p h => exact fun m' H' d g rh rx => k m' H' d σ g rh rx
  | bad => exact k
theorem okS.seq {L m : List Addr} {H : Hp} {r : R Oc} {f : Env → Hh → R Oc} {D : Ends} (k : okS Γ W L m H (bndS r f) D) : okS Γ W L m H r { D with nx := fun σ' H' => tS Γ W f D σ' H' } := by
  cases r with
  | ok a h => cases a with
    | nx env => exact fun m' H' σ' g rh re => ⟨L, m', h, env, rh, re, okS.later k g rh⟩
    | bk env => exact k
    | ct env => exact k
    | rt v => exact k
  | exc c p h => exact k
  | bad => exact k
theorem okS.now {L m : List Addr} {H : Hp} {σ : L2.St} {env : Env} {h : Hh} {D : Ends} (k : okS Γ W L m H (.ok (.nx env) h) D) (rh : RepH Γ L m h H) (re : RepE Γ L m H env σ) : D.nx σ H := k m H σ (Grow.refl _ _) rh re
def FSt (Γ : Gm) (W : WX) (L m1 : List Addr) (H1 : Hp) (D : Ends) (K : Env → Hh → R Oc) (σ : L2.St) (H' : Hp) : Prop :=
  ∃ m2 h2 env, Grow m1 H1 m2 H' ∧ RepH Γ L m2 h2 H' ∧ RepE Γ L m2 H' env σ ∧ okS Γ W L m1 H1 (K env h2) D
def stepF (turn : Vl → Env → Hh → R Oc) (K : Env → Hh → R Oc) (x : Vl) (env : Env) (h : Hh) : R Oc := match turn x env h with
  | .ok (.nx env1) h1 => K env1 h1
  | .ok (.ct env1) h1 => K env1 h1
  | .ok (.bk env1) h1 => .ok (.nx env1) h1
  | .ok (.rt v) h1 => .ok (.rt v) h1
  | .exc c p h1 => .exc c p h1
  | .bad => .bad
def turnF (tg : Tg) (eb : Env → Hh → R Oc) (x : Vl) (env : Env) (h : Hh) : R Oc := match tgV tg x env with
  | some env' => eb env' h
  | none => .bad
theorem body_step {L m1 m2 : List Addr} {H1 H' : Hp} {h2 : Hh} {env : Env} {σ : L2.St} {D : Ends} {eb : Env → Hh → R Oc} {K : Env → Hh → R Oc} {Nx : L2.St → Hp → Prop} (g : Grow m1 H1 m2 H') (rh : RepH Γ L m2 h2 H') (re : RepE Γ L m2 H' env σ)
    (k : okS Γ W L m1 H1 (match eb env h2 with
      | .ok (.nx env1) h1 => K env1 h1
      | .ok (.ct env1) h1 => K env1 h1
      | .ok (.bk env1) h1 => .ok (.nx env1) h1
      | .ok (.rt v) h1 => .ok (.rt v) h1
      | .exc c p h1 => .exc c p h1
      | .bad => .bad) D) (hn : ∀ σ' H3, FSt Γ W L m1 H1 D K σ' H3 → Nx σ' H3) : tS Γ W eb { D with nx := Nx, ct := Nx, bk := D.nx } σ H' := by
  refine ⟨L, m2, h2, env, rh, re, ?_⟩
  cases hr : eb env h2 with
  | bad =>
    rw [hr] at k
    exact k
  | exc c p h3 =>
    rw [hr] at k
    exact fun m' H3 d σ' g' rh' => k m' H3 d σ' (g.tr rh g') rh'
  | ok o h3 =>
    rw [hr] at k
    cases o with
    | nx env1 => exact fun m' H3 σ' g' rh' re' => hn σ' H3 ⟨m', h3, env1, g.tr rh g', rh', re', k⟩
    | ct env1 => exact fun m' H3 σ' g' rh' re' => hn σ' H3 ⟨m', h3, env1, g.tr rh g', rh', re', k⟩
    | bk env1 => exact fun m' H3 σ' g' => k m' H3 σ' (g.tr rh g')
    | rt v => exact fun m' H3 u g' => k m' H3 u (g.tr rh g')
theorem s_for {tg : Tg} {target iter : Expr} {g : TG} {body : List Stmt} {pos : Pos} {ew : Env → Hh → R Wk} {eb : Env → Hh → R Oc} (C : Cn X Γ W) (hp : PassesOwn (model X.prog X.w) X.A X.env X.xe) (hi : PI X target iter (tW Γ W ew)) (hg : TgOk X Γ tg target g)
    (hb : PSs X body (tS Γ W eb)) (hs : ∀ x, foldedSetIterable iter X.env x = pure x) : PS X (.For target iter body [] pos) (tS Γ W fun env h => bnd (ew env h) fun w h => walkF (turnF tg eb) w env h) := by
  refine ps_imp (ps_for hp C.calm hi hg.1 hb hs) fun D σ H hq => ?_
  obtain ⟨L, m, h, env, rh, re, k⟩ := hq
  refine ⟨L, m, h, env, rh, re, okS.bind k fun m1 H1 w h1 J g1 rh1 rw1 k1 => ?_⟩
  have re1 := re.grow g1
  cases w with
  | its xs =>
    obtain ⟨G, Y, wk, st, yl⟩ := rw1
    refine for_it wk (fun i σ' H' => FSt Γ W L m1 H1 D (fun env h => forL (turnF tg eb) (xs.drop i) env h) σ' H') ⟨m1, h1, env, Grow.refl _ _, rh1, re1, k1⟩ (fun i σ' H' _ z => let ⟨m2, h2, env2, g, _⟩ := z; st m2 H' g) (fun i x σ' H' H'' hi z y => ?_) fun σ' H' z => ?_
    · obtain ⟨m2, h2, env2, g, rh2, re2, k⟩ := z
      obtain ⟨g', rh', vl, ev, rv⟩ := yl L (.inl rfl) i m2 h2 H' x H'' hi g rh2 y
      have ed : xs.drop i = vl :: xs.drop (i + 1) := by
        rw [List.drop_eq_getElem_cons hi]
        rw [List.getElem?_eq_getElem hi] at ev
        rw [Option.some.inj ev]
      rw [ed] at k
      replace k : okS Γ W L m1 H1 (stepF (turnF tg eb) (fun env h => forL (turnF tg eb) (xs.drop (i + 1)) env h) vl env2 h2) D := k
      unfold stepF turnF at k
      cases ht : tgV tg vl env2 with
      | none =>
        rw [ht] at k
        exact k.elim
      | some env' =>
        rw [ht] at k
        refine hg.2 L m2 h2 H'' env2 env' σ' vl x _ rh' (re2.grow g') rv ht fun σ2 re3 _ _ => ?_
        exact body_step (K := fun env h => forL (turnF tg eb) (xs.drop (i + 1)) env h) (g.tr rh2 g') rh' re3 k fun σ3 H3 z => z
    · obtain ⟨m2, h2, env2, g, rh2, re2, k⟩ := z
      rw [List.drop_length] at k
      exact k m2 H' σ' g rh2 re2
  | live n =>
    obtain ⟨a, ea, rfl⟩ := rw1
    have k1 : okS Γ W L m1 H1 (forN (turnF tg eb) n fuelW 0 env h1) D := k1
    refine ⟨fun i mm σ' H' => FSt Γ W L m1 H1 D (fun env h => forN (turnF tg eb) n mm i env h) σ' H', ⟨fuelW, m1, h1, env, Grow.refl _ _, rh1, re1, k1⟩, fun i mm σ' H' z => ?_⟩
    obtain ⟨m2, h2, env2, g, rh2, re2, k⟩ := z
    cases mm with
    | zero => exact k.elim
    | succ mm =>
      have e2 := g.get ea
      replace k : okS Γ W L m1 H1 (match h2[n]? with
        | some (.lst ys) => match ys[i]? with
          | some x => stepF (turnF tg eb) (fun env h => forN (turnF tg eb) n mm (i + 1) env h) x env2 h2
          | none => .ok (.nx env2) h2
        | _ => .bad) D := k
      split at k
      · rename_i ys hy
        obtain ⟨ws, e3, rr⟩ := rh2.at_ e2 hy
        split at k
        · rename_i x hx
          obtain ⟨u, eu, ru⟩ := rr.get hx
          refine .inr ⟨⟨ws, u, SqL.of e3, eu⟩, _, fun σ3 H3 z => ⟨mm, Nat.lt_succ_self _, z⟩, fun v H'' y => ?_⟩
          obtain ⟨rfl, y⟩ := y
          have := y ws (SqL.of e3)
          rw [eu] at this
          cases this
          unfold stepF turnF at k
          cases ht : tgV tg x env2 with
          | none =>
            rw [ht] at k
            exact k.elim
          | some env' =>
            rw [ht] at k
            refine hg.2 L m2 h2 H'' env2 env' σ' x _ _ rh2 re2 ru ht fun σ2 re3 _ _ => ?_
            exact body_step (K := fun env h => forN (turnF tg eb) n mm (i + 1) env h) g rh2 re3 k fun σ3 H3 z => z
        · rename_i hx
          refine .inl ⟨⟨ws, SqL.of e3, ?_⟩, k m2 H' σ' g rh2 re2⟩
          rw [← rr.length]
          exact List.getElem?_eq_none_iff.mp hx
      · exact k.elim
theorem s_while {c : Expr} {body : List Stmt} {pos : Pos} {ec : Env → Hh → R Vl} {eb : Env → Hh → R Oc} (C : Cn X Γ W) (hp : PassesOwn (model X.prog X.w) X.A X.env X.xe) (hc : PT X c (tB' Γ W (tru ec))) (hb : PSs X body (tS Γ W eb)) :
    PS X (.While c body [] pos) (tS Γ W fun env h => whileL (tru ec) eb fuelW env h) := by
  refine ps_imp (ps_while hp hc hb) fun D σ H hq => ?_
  obtain ⟨L, m, h, env, rh, re, k⟩ := hq
  refine ⟨fun mm σ' H' => FSt Γ W L m H D (fun env h => whileL (tru ec) eb mm env h) σ' H', ⟨fuelW, m, h, env, Grow.refl _ _, rh, re, k⟩, fun mm σ' H' z => ?_⟩
  obtain ⟨m2, h2, env2, g, rh2, re2, k⟩ := z
  cases mm with
  | zero => exact k.elim
  | succ mm =>
    replace k : okS Γ W L m H (match tru ec env2 h2 with
      | .ok true h1 => match eb env2 h1 with
        | .ok (.nx env2) h2 => whileL (tru ec) eb mm env2 h2
        | .ok (.ct env2) h2 => whileL (tru ec) eb mm env2 h2
        | .ok (.bk env2) h2 => .ok (.nx env2) h2
        | .ok (.rt v) h2 => .ok (.rt v) h2
        | .exc c p h2 => .exc c p h2
        | .bad => .bad
      | .ok false h1 => .ok (.nx env2) h1
      | .exc c p h1 => .exc c p h1
      | .bad => .bad) D := k
    refine ⟨L, m2, h2, env2, rh2, re2, ?_⟩
    cases hr : tru ec env2 h2 with
    | bad =>
      rw [hr] at k
      exact k
    | exc c p h3 =>
      rw [hr] at k
      exact fun m' H3 d g' rh' rx => k m' H3 d σ' (g.tr rh2 g') rh' rx
    | ok b h3 =>
      rw [hr] at k
      intro m3 H3 u g3 rh3 e
      cases e
      cases b with
      | false =>
        rw [if_neg Bool.false_ne_true]
        exact k m3 H3 σ' (g.tr rh2 g3) rh3 (re2.grow g3)
      | true =>
        rw [if_pos rfl]
        refine ⟨_, fun σ4 H4 z => ⟨mm, Nat.lt_succ_self _, z⟩, ?_⟩
        exact body_step (K := fun env h => whileL (tru ec) eb mm env h) (g.tr rh2 g3) rh3 (re2.grow g3) k fun σ3 H3 z => z
end
end Mi
set_option Elab.async false
set_option linter.all false
set_option maxRecDepth 100000
set_option maxHeartbeats 4000000
namespace Mi
open PySem PySem.Spec PyProof.Rows L2
def isLC : Expr → Bool
  | .ListComp _ _ _ _ => true
  | .SetComp _ _ _ _ => true
  | .DictComp _ _ _ _ _ => true
  | _ => false
theorem swaps_no {e : Expr} {t : Option Expr} {l : Nat} {env : PySem.Env} (h : isLC e = false) : swapsWith e t l env = pure false := by
  cases e <;> first | rfl | (cases h)
theorem swaps_tup {e : Expr} {ts : List Expr} {k : Nat} {pos : Pos} {l : Nat} {env : PySem.Env} : swapsWith e (some (.Tuple ts k pos)) l env = pure false := by
  cases e <;> rfl
def isTup : Expr → Bool
  | .Tuple _ _ _ => true
  | .List _ _ => true
  | _ => false
theorem swapped_no {t e : Expr} {env : PySem.Env} (h : isTup e = false) : swappedStores [t] e env = pure none := by
  cases e <;> first | (cases h; done) | (cases t <;> rfl)
section
variable {X : Cx} {Γ : Gm} {W : WX} {e a b : Expr} {pos p : Pos} {ea ei eo : Env → Hh → R Vl} {sa sb : Env → Hh → R Oc} {as bs : List Stmt}
def nxR (env : Env) (h : Hh) : R Oc := .ok (.nx env) h
theorem s_skip {st : Stmt} (h : PS X st tNext) : PS X st (tS Γ W nxR) := by
  refine ps_imp h fun D σ H hq => ?_
  obtain ⟨L, m, h, env, rh, re, k⟩ := hq
  exact okS.now k rh re
theorem ss_nil : PSs X [] (tS Γ W nxR) := by
  refine pss_imp pss_nil fun D σ H hq => ?_
  obtain ⟨L, m, h, env, rh, re, k⟩ := hq
  exact okS.now k rh re
theorem ss_one {st : Stmt} (h : PS X st (tS Γ W sa)) : PSs X [st] (tS Γ W sa) := pss_one h
theorem ss_cons {st : Stmt} (h : PS X st (tS Γ W sa)) (hr : PSs X bs (tS Γ W sb)) : PSs X (st :: bs) (tS Γ W fun env h => bndS (sa env h) sb) := by
  refine pss_imp (pss_cons h hr) fun D σ H hq => ?_
  obtain ⟨L, m, h, env, rh, re, k⟩ := hq
  exact ⟨L, m, h, env, rh, re, okS.seq k⟩
theorem s_expr (he : PE X e (tE Γ W ea)) (hl : isLC e = false) : PS X (.Expr e pos) (tS Γ W fun env h => bnd (ea env h) fun _ h => .ok (.nx env) h) := by
  refine ps_imp (ps_expr he (swaps_no hl)) fun D σ H hq => ?_
  obtain ⟨L, m, h, env, rh, re, k⟩ := hq
  exact ⟨L, m, h, env, rh, re, okS.bind k fun m1 H1 x h1 u g1 rh1 rx k1 => k1.now rh1 (re.grow g1)⟩
def asgR (tg : Tg) (env : Env) (v : Vl) (h : Hh) : R Oc := match tgV tg v env with
  | some env' => .ok (.nx env') h
  | none => .bad
theorem asg_te {tg : Tg} {target : Expr} {g : TG} {te : TE} (hg : TgOk X Γ tg target g) {D : Ends} {σ : L2.St} {H : Hp} (hq : tS Γ W (fun env h => bnd (ea env h) (asgR tg env)) D σ H) : tE Γ W ea σ H fun x H1 => g x σ H1 D.nx := by
  obtain ⟨L, m, h, env, rh, re, k⟩ := hq
  refine ⟨L, m, h, env, rh, re, okS.bind k fun m1 H1 x h1 u g1 rh1 rx k1 => ?_⟩
  unfold asgR at k1
  split at k1
  · rename_i env' he
    exact hg.2 L m1 h1 H1 env env' σ x u _ rh1 (re.grow g1) rx he fun σ' re' _ _ => k1.now rh1 re'
  · exact k1.elim
theorem s_asg {tg : Tg} {target : Expr} {g : TG} (he : PE X e (tE Γ W ea)) (hg : TgOk X Γ tg target g) (hs : swapsWith e (some target) pos.line X.env = pure false) (hw : swappedStores [target] e X.env = pure none) (hst : isStar target = false) :
    PS X (.Assign [target] e pos) (tS Γ W fun env h => bnd (ea env h) (asgR tg env)) :=
  ps_imp (ps_asg he hg.1 hs hw (by cases target <;> first | rfl | cases hst)) fun D σ H hq => asg_te (te := tE Γ W ea) hg hq
theorem s_set {i : Nat} {x : Str} (C : Cn X Γ W) (hi : X.N[i]? = some x) (hx : Loc X.env.scope x) (hf : X.fn x = true ∨ X.env.scope.names.lookup x = some .local) (he : PE X e (tE Γ W ea)) (hs : swapsWith e (some (.Name x p)) pos.line X.env = pure false) :
    PS X (.Assign [.Name x p] e pos) (tS Γ W fun env h => bnd (ea env h) (asgR (.n i) env)) :=
  ps_imp (ps_set C.nd hi hx he hs hf) fun D σ H hq => asg_te (te := tE Γ W ea) (tg_name C.nd hi hx hf (pos := p)) hq
theorem s_ret (he : PE X e (tE Γ W ea)) : PS X (.Return (some e) pos) (tS Γ W fun env h => bnd (ea env h) fun v h => .ok (.rt v) h) := by
  refine ps_imp (ps_ret he) fun D σ H hq => ?_
  obtain ⟨L, m, h, env, rh, re, k⟩ := hq
  exact ⟨L, m, h, env, rh, re, okS.bind k fun m1 H1 x h1 u g1 rh1 rx k1 => k1 m1 H1 u (Grow.refl _ _) rh1 rx⟩
theorem s_retN : PS X (.Return none pos) (tS Γ W fun env h => bnd (.ok .non h) fun v h => .ok (.rt v) h) := by
  refine ps_imp ps_retN fun D σ H hq => ?_
  obtain ⟨L, m, h, env, rh, re, k⟩ := hq
  exact k m H .non (Grow.refl _ _) rh rfl
theorem s_brk : PS X (.Break pos) (tS Γ W fun env h => .ok (.bk env) h) := by
  refine ps_imp ps_break fun D σ H hq => ?_
  obtain ⟨L, m, h, env, rh, re, k⟩ := hq
  exact k m H σ (Grow.refl _ _) rh re
theorem s_cnt : PS X (.Continue pos) (tS Γ W fun env h => .ok (.ct env) h) := by
  refine ps_imp ps_continue fun D σ H hq => ?_
  obtain ⟨L, m, h, env, rh, re, k⟩ := hq
  exact k m H σ (Grow.refl _ _) rh re
def ifR (x : Vl) (h : Hh) (f g : R Oc) : R Oc := match truth h x with
  | some true => f
  | some false => g
  | none => .bad
theorem s_if {c : Expr} {ec : Env → Hh → R Vl} (hc : PT X c (tB' Γ W (tru ec))) (ha : PSs X as (tS Γ W sa)) (hb : PSs X bs (tS Γ W sb)) : PS X (.If c as bs pos) (tS Γ W fun env h => bnd (ec env h) fun x h => ifR x h (sa env h) (sb env h)) := by
  refine ps_imp (ps_if hc ha hb) fun D σ H hq => ?_
  obtain ⟨L, m, h, env, rh, re, k⟩ := hq
  refine ⟨L, m, h, env, rh, re, ?_⟩
  unfold tru
  dsimp only at k
  cases hr : ec env h with
  | exc c p h1 =>
    rw [hr] at k
    exact fun m' H' d g rh rx => k m' H' d σ g rh rx
  | bad =>
    rw [hr] at k
    exact k
  | ok x h1 =>
    rw [hr] at k
    have k : okS Γ W L m H (ifR x h1 (sa env h1) (sb env h1)) D := k
    show okG Γ W L m H σ _ (lift (truth h1 x) h1) _
    unfold ifR at k
    split at k
    · rename_i ht
      rw [ht]
      intro m1 H1 u g1 rh1 e
      cases e
      rw [if_pos rfl]
      exact ⟨L, m1, h1, env, rh1, re.grow g1, okS.later k g1 rh1⟩
    · rename_i ht
      rw [ht]
      intro m1 H1 u g1 rh1 e
      cases e
      rw [if_neg Bool.false_ne_true]
      exact ⟨L, m1, h1, env, rh1, re.grow g1, okS.later k g1 rh1⟩
    · exact k.elim
def augR' (o : BO) (i : Nat) (env : Env) (x y : Vl) (h : Hh) : R Oc := match augV o h x y with
  | some v => .ok (.nx (putE env i v)) h
  | none => .bad
theorem s_aug {i : Nat} {x : Str} {o : BO} (C : Cn X Γ W) (hi : X.N[i]? = some x) (hx : Loc X.env.scope x) (hf : X.fn x = true ∨ X.env.scope.names.lookup x = some .local) (he : PE X e (tE Γ W ea)) :
    PS X (.AugAssign (.Name x p) (bo o) e pos) (tS Γ W fun env h => match env[i]? with
      | some (some x) => bnd (ea env h) fun y h => augR' o i env x y h
      | _ => .bad) := by
  refine ps_imp (ps_aug C.nd hi hx he (op_augV (Γ := Γ) o) hf) fun D σ H hq => ?_
  obtain ⟨L, m, h, env, rh, re, k⟩ := hq
  dsimp only at k
  split at k
  · rename_i v hv
    obtain ⟨u, e1, r⟩ := re.2 i v hv
    refine ⟨u, e1, L, m, h, env, rh, re, okS.bind k fun m1 H1 y h1 w g1 rh1 ry k1 => ?_⟩
    unfold augR' at k1
    split at k1
    · rename_i z hz
      refine ⟨L, m1, h1, v, y, z, rh1, r.grow g1, ry, hz, fun m2 H2 w2 g2 rh2 rz => ?_⟩
      exact k1 m2 H2 _ g2 rh2 (((re.grow g1).grow g2).put rz i)
    · exact k1.elim
  · exact k.elim
def isSlice : Expr → Bool
  | .Slice _ _ _ _ => true
  | _ => false
def setsR (env : Env) (h : Hh) (x y v : Vl) : R Oc := match setV h x y v with
  | some h => .ok (.nx env) h
  | none => .bad
theorem s_sets {o i : Expr} (C : Cn X Γ W) (he : PE X e (tE Γ W ea)) (ho : PE X o (tE Γ W eo)) (hi : PE X i (tE Γ W ei)) (hl : isLC e = false) (ht : isTup e = false) (hi' : isSlice i = false) :
    PS X (.Assign [.Subscript o i p] e pos) (tS Γ W fun env h => bnd (ea env h) fun v h => bnd (eo env h) fun x h => bnd (ei env h) fun y h => setsR env h x y v) := by
  refine ps_imp (ps_asg he (pg_sub ho hi (set_setV (Γ := Γ) C.u1) (by intros; cases i <;> first | rfl | cases hi')) (show swapsWith e (some (.Subscript o i p)) pos.line X.env = pure false from swaps_no hl) (swapped_no ht) rfl) fun D σ H hq => ?_
  obtain ⟨L, m, h, env, rh, re, k⟩ := hq
  refine ⟨L, m, h, env, rh, re, okS.bind k fun m1 H1 v h1 w g1 rh1 rv k1 => ⟨L, m1, h1, env, rh1, re.grow g1, okS.bind k1 fun m2 H2 x h2 u g2 rh2 rx k2 => ⟨L, m2, h2, env, rh2, (re.grow g1).grow g2, okS.bind k2 fun m3 H3 y h3 z g3 rh3 ry k3 => ?_⟩⟩⟩
  unfold setsR at k3
  split at k3
  · rename_i h4 hh
    refine ⟨L, m3, h3, x, y, v, h4, rh3, rx.grow g3, ry, (rv.grow g2).grow g3, hh, fun H4 g4 rh4 => ?_⟩
    exact k3 m3 H4 σ g4 rh4 (((re.grow g1).grow g2).grow g3 |>.grow g4)
  · exact k3.elim
theorem get_getO {hu : X.A.units + 1 < cLine} : PGet X (rV Γ getO) := by
  intro pins s σ H o i ov iv Q I ro ri hq
  obtain ⟨L, m, h, a, b, z, rh, ra, rb, e, k⟩ := hq
  unfold getO at e
  split at e
  · rename_i n
    obtain ⟨p, rfl, q⟩ := ra
    have dk : ∀ (us : List (Key × V)) (kvs : List (Vl × Vl)), H p = some (.dK us) → RepKs Γ L m H kvs us → keyOk b = true → dget b kvs = some z → wpAny (model X.prog X.w) X.A (getItem ov iv) (EP X pins σ Q) X.xe s := fun us kvs q rr hko hg => by
      obtain ⟨j, rk, ey⟩ := key_rep hko rb
      obtain ⟨w, hw, rw'⟩ := dget_some rk rr hg
      cases ro
      have g : DGet H p i (some w) := by
        rw [ey, ← hw]
        exact DGet.k q
      exact d_getItem hu I g ri fun w' s3 I3 r3 => ⟨w, H, I3, r3, k.now rh rw'⟩
    unfold subV at e
    dsimp only at e
    split at e
    · rename_i ix
      split at e
      · rename_i xs hx
        split at e
        · rename_i j hj
          obtain ⟨us, e2, rr⟩ := rh.at_ q hx
          obtain ⟨w, hw, rw'⟩ := rr.get e
          have ha := atI_of (us := us) rr.length.symm hj hw
          cases ro
          cases (show i = .int _ from rb)
          obtain ⟨t, rfl⟩ := ri
          obtain ⟨its, r, pl, hz⟩ := I.list (SqL.of e2)
          obtain ⟨j, h1, h2, h3, h4, h5⟩ := atI_get ha
          obtain ⟨w', ew, rw2⟩ := r.get h2
          have hl := r.length
          have hn := line63
          have fin : EP X pins σ Q w' s := ⟨w, H, I, rw2, k.now rh rw'⟩
          by_cases h0 : 0 ≤ ix
          · have hj : ix.toNat = j := by
              rw [seqIndex_of h0 h5] at h1
              exact Option.some.inj h1
            exact wpAny_getItem_list pl.isList h0 (by omega) (by rw [hj]; simpa using ew) fin
          · have hj : (ix + (its.toArray.size : Int)).toNat = j := by
              rw [seqIndex_neg (by omega) h4] at h1
              rw [List.size_toArray, ← hl]
              exact Option.some.inj h1
            exact wpAny_getItem_list_neg pl.isList (by omega) (by rw [List.size_toArray] <;> omega) (by omega) (by rw [hj]; simpa using ew) fin
        · cases e
      · rename_i kvs hk
        obtain ⟨us, e2, rr⟩ := rh.at_ q hk
        exact dk us kvs e2 rr rfl e
      · cases e
    · split at e
      · rename_i kvs hk
        obtain ⟨us, e2, rr⟩ := rh.at_ q hk
        exact dk us kvs e2 rr rfl e
      · cases e
    · cases e
  · cases e
def augsR (b : BO) (env : Env) (x y z w : Vl) (h : Hh) : R Oc := match augV b h z w with
  | some v => setsR env h x y v
  | none => .bad
def augs0 (ea : Env → Hh → R Vl) (b : BO) (env : Env) (x y : Vl) (h : Hh) : R Oc := match getO h x y with
  | some z => bnd (ea env h) fun w h => augsR b env x y z w h
  | none => .bad
theorem s_augs {o i : Expr} {b : BO} (C : Cn X Γ W) (he : PE X e (tE Γ W ea)) (ho : PE X o (tE Γ W eo)) (hi : PE X i (tE Γ W ei)) (hl : isSlice i = false) :
    PS X (.AugAssign (.Subscript o i p) (bo b) e pos) (tS Γ W fun env h => bnd (eo env h) fun x h => bnd (ei env h) fun y h => augs0 ea b env x y h) := by
  refine ps_imp (ps_augS ho hi (get_getO (hu := C.u1) (Γ := Γ)) he (op_augV (Γ := Γ) b) (set_setV (Γ := Γ) C.u1) (by intros; cases i <;> first | rfl | cases hl)) fun D σ H hq => ?_
  obtain ⟨L, m, h, env, rh, re, k⟩ := hq
  refine ⟨L, m, h, env, rh, re, okS.bind k fun m1 H1 x h1 u g1 rh1 rx k1 => ⟨L, m1, h1, env, rh1, re.grow g1, okS.bind k1 fun m2 H2 y h2 v g2 rh2 ry k2 => ?_⟩⟩
  have re2 := (re.grow g1).grow g2
  unfold augs0 at k2
  split at k2
  · rename_i z hz
    refine ⟨L, m2, h2, x, y, z, rh2, rx.grow g2, ry, hz, fun m3 H3 w g3 rh3 rz => ?_⟩
    refine ⟨L, m3, h2, env, rh3, re2.grow g3, okS.bind (okS.later k2 g3 rh3) fun m4 H4 w1 h4 w2 g4 rh4 rw4 k4 => ?_⟩
    unfold augsR at k4
    split at k4
    · rename_i v1 hv1
      refine ⟨L, m4, h4, z, w1, v1, rh4, rz.grow g4, rw4, hv1, fun m5 H5 u5 g5 rh5 r5 => ?_⟩
      have k5 := okS.later k4 g5 rh5
      unfold setsR at k5
      split at k5
      · rename_i h6 hh
        refine ⟨L, m5, h4, x, y, v1, h6, rh5, ((rx.grow g2).grow g3 |>.grow g4).grow g5, ((ry.grow g3).grow g4).grow g5, r5, hh, fun H6 g6 rh6 => ?_⟩
        exact k5 m5 H6 σ g6 rh6 (((re2.grow g3).grow g4).grow g5 |>.grow g6)
      · exact k5.elim
    · exact k4.elim
  · exact k2.elim
end
end Mi
set_option Elab.async false
set_option linter.all false
set_option maxRecDepth 100000
set_option maxHeartbeats 4000000
namespace Mi
open PySem PySem.Spec PyProof.Rows L2
def swNames (sc : Scope) (line : Nat) (ts : List Expr) : List Str := ts.filterMap fun
  | .Name id pos => if sc.names.lookup id == some .local && pos.line == line then some id else none
  | _ => none
def lineOf (ts : List Expr) : Nat := (ts.head?.map (·.pos.line)).getD 0
def hasStar (vs : List Expr) : Bool := vs.any fun | .Starred .. => true | _ => false
def swK (sc : Scope) (ts vs : List Expr) : Nat :=
  if (!(ts.length == 2 || ts.length == 3) || vs.length != ts.length || sc.kind != .function) = true then 0
  else if hasStar vs = true then 0
  else if ((swNames sc (lineOf ts) ts).length != ts.length || (swNames sc (lineOf ts) ts).eraseDups.length != (swNames sc (lineOf ts) ts).length) = true then 0
  else if vs.all (foldedForSure 8) = true then 0
  else if vs.all (constantsAlone 8) = true then 2
  else 1
theorem sw_raw {env : PySem.Env} {ts vs : List Expr} {k k2 : Nat} {p p2 : Pos} :
    swappedStores [.Tuple ts k p] (.Tuple vs k2 p2) env = (
  if (!(ts.length == 2 || ts.length == 3) || vs.length != ts.length || env.blockKind != .function) = true then pure none
  else if hasStar vs = true then pure none
  else if ((swNames env.scope (lineOf ts) ts).length != ts.length || (swNames env.scope (lineOf ts) ts).eraseDups.length != (swNames env.scope (lineOf ts) ts).length) = true then pure none
  else if vs.all (foldedForSure 8) = true then pure none
  else do
    if vs.all (constantsAlone 8) = true then unsupported "assign.tuple-of-constant-expressions:order-of-the-stores"
    pure (some (swNames env.scope (lineOf ts) ts))) := rfl
theorem sw_eq {env : PySem.Env} {ts vs : List Expr} {k k2 : Nat} {p p2 : Pos} (hk : env.scope.kind = .function) :
    (swK env.scope ts vs = 0 → swappedStores [.Tuple ts k p] (.Tuple vs k2 p2) env = pure none) ∧ (swK env.scope ts vs = 1 → swappedStores [.Tuple ts k p] (.Tuple vs k2 p2) env = pure (some (swNames env.scope (lineOf ts) ts))) := by
  have hb : env.blockKind = env.scope.kind := by
    unfold Env.blockKind
    rw [hk]
    rfl
  rw [sw_raw, hb]
  unfold swK
  split
  · exact ⟨fun _ => rfl, fun h => by cases h⟩
  · split
    · exact ⟨fun _ => rfl, fun h => by cases h⟩
    · split
      · exact ⟨fun _ => rfl, fun h => by cases h⟩
      · split
        · exact ⟨fun _ => rfl, fun h => by cases h⟩
        · split
          · exact ⟨fun h => (by cases h), fun h => by cases h⟩
          · exact ⟨fun h => (by cases h), fun _ => rfl⟩
section
variable {X : Cx} {Γ : Gm} {W : WX} {pos pt pt2 : Pos} {kt k2 : Nat} {el : Env → Hh → R (List Vl)} {ts vs : List Expr}
def parR (is : List Nat) (env : Env) (vs : List Vl) (h : Hh) : R Oc := match putEs env is vs with
  | some env' => .ok (.nx env') h
  | none => .bad
theorem s_parA {is : List Nat} {gs : TGs} (C : Cn X Γ W) (hg : TgsOk X Γ is ts gs) (hl : ts.length = is.length) (hst : noStars ts = true) (hz : is.length ≤ 1000) (ha : PA X vs (tL Γ W el)) (hw : swappedStores [.Tuple ts kt pt] (.Tuple vs k2 pt2) X.env = pure none) :
    PS X (.Assign [.Tuple ts kt pt] (.Tuple vs k2 pt2) pos) (tS Γ W fun env h => bnd (el env h) (parR is env)) := by
  refine ps_imp (ps_asg (pe_tup ha) (pg_tup C.calm hg.1 ((assign_plain hst).1.trans hl) (assign_find hst)) (show swapsWith (.Tuple vs k2 pt2) (some (.Tuple ts kt pt)) pos.line X.env = pure false from swaps_tup) hw rfl) fun D σ H hq => ?_
  obtain ⟨L, m, h, env, rh, re, k⟩ := hq
  refine ⟨L, m, h, env, rh, re, okS.bind k fun m1 H1 xs h1 us g1 rh1 rx k1 => ?_⟩
  unfold parR at k1
  split at k1
  · rename_i env' he
    have hl2 := putEs_len he
    have hlu : us.length = is.length := by rw [← rx.length]; exact hl2
    have g2 : ∀ p, H1 p = none → Grow m1 H1 m1 (upd H1 p (.tup us)) := fun p hp => Grow.fresh hp
    refine ⟨by rw [hlu]; exact Nat.le_of_lt (small1000 hz), fun p hp => ?_⟩
    rw [C.K]
    refine ⟨p, us, rfl, SqT.of upd_same, hlu, ?_⟩
    refine hg.2 L m1 h1 _ env env' σ xs us _ (rh1.fresh hp) ((re.grow g1).grow (g2 p hp)) (rx.grow' (g2 p hp)) he fun σ' re' _ _ => ?_
    exact k1 m1 _ σ' (g2 p hp) (rh1.fresh hp) re'
  · exact k1.elim
theorem s_par2 {i j : Nat} {x y : Str} {a b : Expr} {px py : Pos} (C : Cn X Γ W) (hi : X.N[i]? = some x) (hj : X.N[j]? = some y) (hij : i ≠ j) (hx : X.env.scope.names.lookup x = some .local) (hy : X.env.scope.names.lookup y = some .local) (ha : PA X [a, b] (tL Γ W el))
    (hw : swappedStores [.Tuple [.Name x px, .Name y py] kt pt] (.Tuple [a, b] k2 pt2) X.env = pure (some [x, y])) :
    PS X (.Assign [.Tuple [.Name x px, .Name y py] kt pt] (.Tuple [a, b] k2 pt2) pos) (tS Γ W fun env h => bnd (el env h) (parR [i, j] env)) := by
  refine ps_imp (ps_par C.calm C.nd hi hj hij hx hy ha hw) fun D σ H hq => ?_
  obtain ⟨L, m, h, env, rh, re, k⟩ := hq
  refine ⟨L, m, h, env, rh, re, okS.bind k fun m1 H1 xs h1 us g1 rh1 rx k1 => ?_⟩
  unfold parR at k1
  split at k1
  · rename_i env' he
    match xs, us, rx, he with
    | [u, v], [u', v'], rx, he =>
      cases Option.some.inj he
      exact ⟨u', v', rfl, k1.now rh1 (((re.grow g1).put rx.1 i).put rx.2.1 j)⟩
    | [], _, _, he => cases he
    | [_], _, _, he => cases he
    | _ :: _ :: _ :: _, _, _, he => cases he
  · exact k1.elim
theorem s_par3 {i j l : Nat} {x y z : Str} {a b c : Expr} {px py pz : Pos} (C : Cn X Γ W) (hi : X.N[i]? = some x) (hj : X.N[j]? = some y) (hl : X.N[l]? = some z) (hij : i ≠ j) (hil : i ≠ l) (hjl : j ≠ l) (hx : X.env.scope.names.lookup x = some .local) (hy : X.env.scope.names.lookup y = some .local) (hz : X.env.scope.names.lookup z = some .local)
    (ha : PA X [a, b, c] (tL Γ W el)) (hw : swappedStores [.Tuple [.Name x px, .Name y py, .Name z pz] kt pt] (.Tuple [a, b, c] k2 pt2) X.env = pure (some [x, y, z])) :
    PS X (.Assign [.Tuple [.Name x px, .Name y py, .Name z pz] kt pt] (.Tuple [a, b, c] k2 pt2) pos) (tS Γ W fun env h => bnd (el env h) (parR [i, j, l] env)) := by
  refine ps_imp (ps_par3 C.calm C.nd hi hj hl hij hil hjl hx hy hz ha hw) fun D σ H hq => ?_
  obtain ⟨L, m, h, env, rh, re, k⟩ := hq
  refine ⟨L, m, h, env, rh, re, okS.bind k fun m1 H1 xs h1 us g1 rh1 rx k1 => ?_⟩
  unfold parR at k1
  split at k1
  · rename_i env' he
    match xs, us, rx, he with
    | [u, v, w], [u', v', w'], rx, he =>
      cases Option.some.inj he
      exact ⟨u', v', w', rfl, k1.now rh1 ((((re.grow g1).put rx.1 i).put rx.2.1 j).put rx.2.2.1 l)⟩
    | [], _, _, he => cases he
    | [_], _, _, he => cases he
    | [_, _], _, _, he => cases he
    | _ :: _ :: _ :: _ :: _, _, _, he => cases he
  · exact k1.elim
variable {tg : Tg} {elt target iter : Expr} {ifs : List Expr} {scope : Scope} {own : List (Str × Nat)} {g : TG} {ec : Env → Hh → R Bool} {ee : Env → Hh → R Vl} {ew : Env → Hh → R Wk} {spos py : Pos}
abbrev InBlk (X : Cx) (scope : Scope) (P : Cx → Prop) : Prop := ∀ (s : Shared) (H : Hp) (C : Addr) (cl : List (Str × Addr)) (fp : List Addr), P (X.blk s H scope (compEnvC scope cl C X.env) fp)
theorem f_comp (C : Cn X Γ W) (hi : PI X target iter (tW Γ W ew)) (ok : BlkOk X.N X.env.scope scope own) (hg : InBlk X scope fun X => TgOk X Γ tg target g) (ht : InBlk X scope fun X => PTs X ifs (tB' Γ W0 ec)) (he : InBlk X scope fun X => PE X elt (tE Γ W0 ee))
    (ho : ∀ i ∈ slots tg, i ∈ own.map (·.2)) (hs : ∀ x, foldedSetIterable iter X.env x = pure x) :
    PE X (.ListComp elt [⟨target, iter, ifs, 0⟩] scope pos) (tF Γ W fun env h => bnd (ew env h) fun w h => walkC (turnR tg (own.map (·.2)) env ec ee) w h) := by
  refine pe_imp (pe_lc C.calm C.nd hi ok (fun s H A cl fp => (hg s H A cl fp).1) ht he hs) fun σ H Q hq => ?_
  exact comp_te _ (hg {} H 0 [] []) ho hq
theorem okS.fz {L m : List Addr} {H : Hp} {h : Hh} {σ : L2.St} {r : R (List Vl)} {f : Vl → Hh → R Oc} {D : Ends} {Q : VK} (k : okS Γ W L m H (bnd (bnd r fun xs h => .ok (.lst xs) h) f) D)
    (st : ∀ m1 H1 a h1 u, Grow m H m1 H1 → RepH Γ L m1 h1 H1 → RepV Γ L m1 H1 a u → okS Γ W L m1 H1 (f a h1) D → Q u H1) : okF Γ W L m H σ r Q := by
  cases r with
  | ok xs h => exact fun m' H' D us g hD n1 n2 e rr rh => st m' H' (.lst xs) h (.ref D) g rh.joined ⟨D, us, rfl, e, n1, n2, rr.joined⟩ (okS.later k g rh.joined)
  | exc c p h => exact fun m' H' d g rh rx => k m' H' d σ g rh rx
  | bad => exact k
theorem okS.th {L m : List Addr} {H : Hp} {h : Hh} {σ : L2.St} {r : R (List Vl)} {f : Vl → Hh → R Oc} {D : Ends} {Q : VK} (k : okS Γ W L m H (bnd (bnd r fun xs h => .ok (.ref h.length) (h ++ [.lst xs])) f) D)
    (st : ∀ m1 H1 a h1 u, Grow m H m1 H1 → RepH Γ L m1 h1 H1 → RepV Γ L m1 H1 a u → okS Γ W L m1 H1 (f a h1) D → Q u H1) : okF Γ W L m H σ r Q := by
  cases r with
  | ok xs h =>
    refine fun m' H' D us g hD n1 n2 e rr rh => ?_
    have g' : Grow m H (m' ++ [D]) H' := by
      refine ⟨?_, g.keep, g.tup, g.frz, g.own, g.tbl⟩
      obtain ⟨t, e1, f⟩ := g.ext
      refine ⟨t ++ [D], by rw [e1, List.append_assoc], fun a ha => ?_⟩
      rcases List.mem_append.mp ha with z | z
      · exact f a z
      · rw [List.mem_singleton.mp z]
        exact hD
    have rh' := rh.moved n1 n2 e rr
    refine st (m' ++ [D]) H' (.ref h.length) _ (.ref D) g' rh' ⟨D, rfl, ?_⟩ (okS.later k g' rh')
    rw [← rh.len, List.getElem?_append_right (Nat.le_refl _), Nat.sub_self]
    rfl
  | exc c p h => exact fun m' H' d g rh rx => k m' H' d σ g rh rx
  | bad => exact k
def keepR (w : Bool) (xs : List Vl) (h : Hh) : R Vl := match w with
  | true => .ok (.ref h.length) (h ++ [.lst xs])
  | false => .ok (.lst xs) h
theorem s_setLc {w : Bool} {i : Nat} {x : Str} (C : Cn X Γ W) (hx : X.N[i]? = some x) (hl : X.env.scope.names.lookup x = some .local) (hsw : swapsWith (.ListComp elt [⟨target, iter, ifs, 0⟩] scope pos) (some (.Name x py)) spos.line X.env = pure true)
    (hi : PI X target iter (tW Γ W ew)) (ok : BlkOk X.N X.env.scope scope own) (hg : InBlk X scope fun X => TgOk X Γ tg target g) (ht : InBlk X scope fun X => PTs X ifs (tB' Γ W0 ec)) (he : InBlk X scope fun X => PE X elt (tE Γ W0 ee))
    (ho : ∀ i ∈ slots tg, i ∈ own.map (·.2)) (hs : ∀ x, foldedSetIterable iter X.env x = pure x) :
    PS X (.Assign [.Name x py] (.ListComp elt [⟨target, iter, ifs, 0⟩] scope pos) spos) (tS Γ W fun env h => bnd (bnd (bnd (ew env h) fun w h => walkC (turnR tg (own.map (·.2)) env ec ee) w h) (keepR w)) (asgR (.n i) env)) := by
  refine ps_imp (ps_setLc C.calm C.nd hx hl hsw hi ok (fun s H A cl fp => (hg s H A cl fp).1) ht he hs) fun D σ H hq => ?_
  show tLc (tW Γ W ew) g (tB' Γ W0 ec) (tE Γ W0 ee) (own.map (·.2)) σ H fun x H1 => gName i x σ H1 D.nx
  refine comp_te _ (hg {} H 0 [] []) ho ?_
  obtain ⟨L, m, h, env, rh, re, k⟩ := hq
  refine ⟨L, m, h, env, rh, re, ?_⟩
  have fin : ∀ m1 H1 a h1 u, Grow m H m1 H1 → RepH Γ L m1 h1 H1 → RepV Γ L m1 H1 a u → okS Γ W L m1 H1 (asgR (.n i) env a h1) D → gName i u σ H1 D.nx := fun m1 H1 a h1 u g1 rh1 ra k1 => okS.now (show okS Γ W L m1 H1 (.ok (.nx (putE env i a)) h1) D from k1) rh1 ((re.grow g1).put ra i)
  cases w with
  | true => exact okS.th (h := h) k fin
  | false => exact okS.fz (h := h) k fin
end
end Mi
set_option Elab.async false
set_option linter.all false
set_option maxRecDepth 100000
set_option maxHeartbeats 4000000
namespace Mi
open PySem PySem.Spec PyProof.Rows L2
structure OwnOk (Γ : Gm) (c : Nat) : Prop where
  cls : L2.SCls Γ.K (Γ.ca c)
  fc : PySem.W.findIn Γ.K (.ref (Γ.ca c)) "__class__" = some (some (.builtin "object.__class__"))
  sp : PySem.W.specialIn Γ.K (.builtin "object.__class__") "__get__" = some (some (.builtin "getset_descriptor.__get__"))
  tk : PySem.W.takesIn Γ.K (.builtin "object.__class__") = some true
  mro : PySem.W.mroIn Γ.K (Γ.ca c) (.type "object") = some true
  ty : ∀ T ∈ ["int", "bool", "str", "tuple", "list"], PySem.W.kitOne Γ.K (.ref (Γ.ca c)) (.type T) = some false
def isNm : Bif → String
  | .isint => "int"
  | .isbool => "bool"
  | .isstr => "str"
  | .istuple => "tuple"
  | .islist => "list"
  | _ => ""
def kdNm : Kd → String
  | .non => "NoneType"
  | .bl => "bool"
  | .int => "int"
  | .str => "str"
  | .tup => "tuple"
  | .lst => "list"
  | .dct => "dict"
  | .own _ => ""
section
variable {X : Cx} {Γ : Gm} {W : WX} {e : Expr} {p p2 p3 pos : Pos} {ea : Env → Hh → R Vl}
theorem kit_kd {K : PySem.W.Frag} {b : Bif} {k : Kd} {r : Bool} (hb : isNm b ≠ "") (hk : ∀ c, k ≠ .own c) (e : isKd b k = some r) : PySem.W.kitOne K (.type (kdNm k)) (.type (isNm b)) = some r := by
  cases b <;> first | exact absurd rfl hb | (cases k <;> first | exact absurd rfl (hk _) | (cases Option.some.inj e; exact kit_ty (by decide +kernel)))
theorem kd_own {b : Bif} {c : Nat} {r : Bool} (hb : isNm b ≠ "") (e : isKd b (.own c) = some r) : r = false ∧ isNm b ∈ ["int", "bool", "str", "tuple", "list"] := by
  cases b <;> first | exact absurd rfl hb | (cases Option.some.inj e; exact ⟨rfl, by decide⟩)
theorem ty_kd {L m : List Addr} {H : Hp} {h : Hh} {x : Vl} {u : V} {k : Kd} (rh : RepH Γ L m h H) (r : RepV Γ L m H x u) (e : kdOf h x = some k) (hk : ∀ c, k ≠ .own c) : TyX Γ.K H u (.type (kdNm k)) := by
  unfold kdOf at e
  split at e
  · cases Option.some.inj e; cases (show u = _ from r); exact .base .non
  · cases Option.some.inj e; cases (show u = _ from r); exact .base (.bl _)
  · cases Option.some.inj e; cases (show u = _ from r); exact .base (.int _)
  · cases Option.some.inj e; cases (show u = _ from r); exact .base (.str _)
  · cases Option.some.inj e
    obtain ⟨a, us, rfl, q, _⟩ := r
    rcases q with (q | ⟨o, q⟩) | ⟨o, its, n, q, c, _⟩
    · exact .base (.tup q)
    · exact .fTuple q
    · exact .kTuple q c
  · cases Option.some.inj e
    obtain ⟨a, us, rfl, q, _⟩ := r
    exact .base (.lst q)
  · cases Option.some.inj e
    obtain ⟨_, a, rfl, q, _⟩ := r
    exact .base (.dK q)
  · cases Option.some.inj e
    exact absurd rfl (hk _)
  · split at e
    · rename_i l hl
      cases Option.some.inj e
      obtain ⟨a, rfl, q⟩ := r
      obtain ⟨us, e2, _⟩ := rh.at_ q hl
      exact .base (.lst e2)
    · cases e
  · cases e
def rIs (Γ : Gm) (b : Bif) (w : V) : List V → Hp → VK → Prop := fun xs H Q => ∃ x L m h a v, xs = [x, w] ∧ RepH Γ L m h H ∧ RepV Γ L m H a x ∧ isV b h a = some v ∧ okV Γ L m H h v Q
theorem isV_some {b : Bif} {h : Hh} {x v : Vl} (e : isV b h x = some v) : ∃ k r, kdOf h x = some k ∧ isKd b k = some r ∧ v = .bl r := by
  unfold isV at e
  split at e
  · rename_i k hk
    split at e
    · rename_i r hr
      exact ⟨k, r, hk, hr, (Option.some.inj e).symm⟩
    · cases e
  · cases e
theorem kd_ins {h : Hh} {x : Vl} {c : Nat} (e : kdOf h x = some (.own c)) : ∃ xs, x = .ins c xs := by
  unfold kdOf at e
  split at e <;> try (cases e; done)
  · cases Option.some.inj e
    exact ⟨_, rfl⟩
  · split at e <;> cases e
theorem cb_is {b : Bif} (C : Cn X Γ W) (hb : isNm b ≠ "") (ow : ∀ c, Γ.cok c = true → OwnOk Γ c) : CallR X (.builtin "isinstance") (rIs Γ b (.ty (isNm b))) := by
  intro pins s σ H xs us Q I r hq
  obtain ⟨x, L, m, h, a, v, rfl, rh, ra, e, kk⟩ := hq
  obtain ⟨k, r', hk, hr, rfl⟩ := isV_some e
  have plain : (∀ c, k ≠ .own c) → wpAny (model X.prog X.w) X.A (call (.builtin "isinstance") us) (EP X pins σ Q) X.xe s := fun hkk => by
    have ty := ty_kd rh ra hk hkk
    rw [← C.K] at ty
    exact call_isi pins s σ H _ us Q I r ⟨x, _, _, _, r', rfl, .ty _, ty, kit_kd hb hkk hr, kk.now rh rfl⟩
  cases k with
  | own c =>
    obtain ⟨xs, rfl⟩ := kd_ins hk
    obtain ⟨a, dx, vs, us', rfl, q, _, _, _, _, f, _⟩ := ra
    have o := ow c f.1
    obtain ⟨u1, u2, rfl, r1, r2⟩ := vals2 r
    cases (show u1 = Value.ref a from r1)
    cases (show u2 = Value.type _ from r2)
    obtain ⟨us, od, _, _, J⟩ := L2.slAt_get I q
    obtain ⟨rfl, hm⟩ := kd_own hb hr
    have e := o.ty _ hm
    have c1 := o.cls.ic
    have c2 : PySem.W.plainGet Γ.K (Γ.ca c) "__class__" = true := o.cls.pg
    have c3 := o.fc
    have c4 := o.sp
    have c5 := o.tk
    have c6 := o.mro
    rw [← C.K] at e c1 c2 c3 c4 c5 c6
    exact PySem.W.kia_one (OwX.kitx_slt c1 c2 c3 c4 c5 c6) I.kIn J e (fun z => nomatch z) fun tk => ⟨.bl false, H, I.tok _, rfl, kk.now rh rfl⟩
  | _ => exact plain (by simp)
theorem s_is {b : Bif} (C : Cn X Γ W) (hb : isNm b ≠ "") (ow : ∀ c, Γ.cok c = true → OwnOk Γ c) (hg : Gl X "isinstance") (hm : Γ.mg "isinstance" = none) (hg2 : Gl X (isNm b)) (hm2 : Γ.mg (isNm b) = none) (ha : PE X e (tE Γ W ea)) (hst : isStar e = false) :
    PE X (.Call (.Name "isinstance" p) [e, .Name (isNm b) p2] [] pos) (tE Γ W fun env h => bnd (bnd (ea env h) fun x h => bnd (.ok [] h) fun xs h => .ok (x :: xs) h) fun xs h => lift (bifV b h xs) h) := by
  rw [← C.mg] at hm hm2
  have ht : PE X (.Name (isNm b) p2) (tC (.ty (isNm b))) := by
    cases b <;> first | exact absurd rfl hb | exact pe_bltn (u := .type _) hg2 hm2 (by decide +kernel) rfl (by decide) (by decide)
  refine pe_imp (pe_callB (cb_is C hb ow) hg hm PyProof.Rows.boot_isinstance (pa_cons ha (pa_cons ht pa_nil rfl) (star_cons hst)) (by decide) (by decide) (star_cons hst) rfl) fun σ H Q hq => ?_
  obtain ⟨L, m, h, env, rh, re, kk⟩ := hq
  dsimp only at kk
  rw [bnd_bnd] at kk
  refine ⟨L, m, h, env, rh, re, kk.bind fun m1 H1 x h1 u g1 rh1 rx k1 => ?_⟩
  have k1 : okG Γ W L m1 H1 σ (fun m' H' => RepV Γ L m' H') (lift (bifV b h1 [x]) h1) Q := k1
  obtain ⟨z, ez, kz⟩ := k1.lift
  have ez : isV b h1 x = some z := by
    cases b <;> first | exact absurd rfl hb | exact ez
  exact ⟨u, L, m1, h1, x, z, rfl, rh1, rx, ez, kz⟩
end
end Mi
set_option Elab.async false
set_option linter.all false
set_option maxRecDepth 100000
set_option maxHeartbeats 4000000
namespace Mi
open PySem PySem.Spec PyProof.Rows L2 HT
section
variable {prog : Program} {w : World} {A : Around} {E : Value → Shared → Prop} {s : Shared}
theorem rev_adjust (n : Nat) : Builtin.Slice.sliceAdjust none none (-1) (n : Int) = ((n : Int) - 1, -1) := by
  unfold Builtin.Slice.sliceAdjust
  simp
theorem rev_places (n : Nat) : Builtin.Slice.slicePlaces ((n : Int) - 1) (-1) (-1) = n := by
  unfold Builtin.Slice.slicePlaces
  simp only [show ¬ ((-1 : Int) > 0) by omega, if_false]
  by_cases h : (n : Int) - 1 > -1
  · rw [if_pos h]
    have : ((n : Int) - 1 - -1 - 1) / (- -1) = (n : Int) - 1 := by
      rw [show (- -1 : Int) = 1 by decide, Int.ediv_one]
      omega
    rw [this]
    omega
  · rw [if_neg h]
    omega
theorem rev_applied {sl : Addr} {vs : Value} {n : Nat} {Q : Int × Int × Nat → Shared → Prop} (hs : s.heap.IsSliceOf sl .none .none vs) (ps : IsPart vs (some (-1))) (h : Q ((n : Int) - 1, -1, n) s) :
    wpAny (model prog w) A (Builtin.Slice.sliceApplied (.ref sl) (pure (n : Int))) Q E s := by
  obtain ⟨os, hos, hcs, hds⟩ := id hs
  unfold Builtin.Slice.sliceApplied Builtin.Slice.sliceFields
  refine wpAny_bind (wpAny_bind (wpAny_field hos hds (x := .none) rfl (wpAny_bind (wpAny_field hos hds (x := .none) rfl (wpAny_bind (wpAny_field hos hds (x := vs) rfl (wpAny_pure ?_)))))))
  refine wpAny_bind (slicePart_ ps ?_)
  show wpAny _ _ (if ((-1 : Int) == 0) = true then _ else _) _ _ s
  rw [if_neg (by decide)]
  refine wpAny_bind (slicePart_none (wpAny_bind (slicePart_none (wpAny_bind (wpAny_pure ?_)))))
  show wpAny _ _ (match Builtin.Slice.sliceAdjust none none (-1) (n : Int) with | (lo, hi) => pure (lo, (-1 : Int), Builtin.Slice.slicePlaces lo hi (-1))) _ _ s
  rw [rev_adjust]
  show wpAny _ _ (pure ((n : Int) - 1, (-1 : Int), Builtin.Slice.slicePlaces ((n : Int) - 1) (-1) (-1))) _ _ s
  rw [rev_places]
  exact wpAny_pure h
theorem rev_pick (xs : Array Value) : ((List.range xs.size).filterMap fun (m : Nat) => xs[(((xs.size : Int) - 1) + (m : Int) * (-1)).toNat]?).toArray = xs.toList.reverse.toArray := by
  rw [← PySem.W.krv_pick]
  unfold slicePick
  rw [PySem.W.krv_bounds]
  show _ = ((sliceRange ((xs.size : Int) - 1) (-1) (-1)).filterMap (xs[·]?)).toArray
  rw [PySem.W.krv_sliceRange, List.filterMap_map]
  congr 2
  funext m
  have e1 : (((xs.size : Int) - 1) + (m : Int) * (-1)).toNat = xs.size - 1 - m := by omega
  rw [e1]
  rfl
theorem rev_tuple {t sl : Addr} {items : Array Value} {vs : Value} {Q : Value → Shared → Prop} (ht : IsTup s.heap t items) (hs : s.heap.IsSliceOf sl .none .none vs) (ps : IsPart vs (some (-1)))
    (h : Q (.ref s.heap.objs.size) { s with heap := s.heap.push { cls := .type "tuple", data := .seq items.toList.reverse.toArray } }) (hsz : items.size ≤ sizeLine) : wpAny (model prog w) A (getItem (.ref t) (.ref sl)) Q E s := by
  have htake : sizeOk (.seq items.toList.reverse.toArray) := by
    show items.toList.reverse.toArray.size ≤ sizeLine
    rw [List.size_toArray, List.length_reverse, Array.length_toList]
    exact hsz
  obtain ⟨os, hos, hcs, hds⟩ := id hs
  have hTs : s.TypeIs (.ref sl) "slice" := ⟨os, hos, hcs⟩
  unfold getItem
  try with_reducible refine wpAny_holding ?_
  first | refine wpAny_bind (wpAny_pure ?_) | skip
  refine wpAny_bind (wpAny_sequenceKey ht.typeIs (by decide) ?_)
  refine wpAny_bind (wpAny_callSpecial?_slot (name := Str.ofString "__getitem__") ht.typeIs PyProof.Rows.slot_tuple_getitem
    (wpAny_call_entry PyProof.Rows.slot_tuple_getitem ht.typeIs entry_tuple_getitem ?_ (args_tuple_getitem _ _)))
  show wpAny _ _ (Builtin.Tuple.tupleItemsOf (.ref t) >>= _) _ _ s
  refine wpAny_bind (tupleItemsOf_ ht ?_)
  refine wpAny_bind (wpAny_typeOf hTs ?_)
  rw [if_pos (by decide)]
  refine wpAny_bind (rev_applied hs ps ?_)
  have hno : ¬ ((((items.size : Int) - 1) == 0 && (-1 : Int) == 1 && items.size == items.size) = true) := by
    rw [show ((-1 : Int) == 1) = false by decide, Bool.and_false, Bool.false_and]
    exact Bool.false_ne_true
  show wpAny _ _ (if (((items.size : Int) - 1) == 0 && (-1 : Int) == 1 && items.size == items.size) = true then _ else _) _ _ s
  rw [if_neg hno, rev_pick]
  first
    | exact wpAny_bind (m := Builtin.Tuple.tupleExact _) (wpAny_newObj_type (wpAny_pure ⟨_, rfl, wpAny_pure h⟩) htake)
    | exact wpAny_bind (m := Builtin.Tuple.tupleExact _) (wpAny_newObj_type (wpAny_bind (wpAny_pure (wpAny_pure ⟨_, rfl, wpAny_pure h⟩))) htake)
    | exact wpAny_bind (wpAny_bind (m := Builtin.Tuple.tupleExact _) (wpAny_newObj_type (wpAny_pure (wpAny_pure ⟨_, rfl, wpAny_pure h⟩)) htake))
    | exact wpAny_bind (wpAny_bind (m := Builtin.Tuple.tupleExact _) (wpAny_newObj_type (wpAny_pure ⟨_, rfl, wpAny_pure h⟩) htake))
end
section
variable {X : Cx} {Γ : Gm} {W : WX} {e a b : Expr} {pos p p1 p2 p3 : Pos} {ea eb : Env → Hh → R Vl}
def tRevT (K : PySem.W.Frag) (te : TE) : TE := fun σ H Q => te σ H fun x H1 => ∃ a xs, x = .ref a ∧ SqT K H1 a xs ∧ ∀ p, H1 p = none → Q (.ref p) (upd H1 p (.tup xs.reverse))
theorem pe_revT {te : TE} {k : Nat} (he : PE X e te) : PE X (.Subscript e (.Slice none none (some (.UnaryOp .USub (.Constant (.int 1) k p1) p2)) p3) pos) (tRevT X.K te) := by
  refine ⟨fun pins s σ H Q I h => ?_⟩
  refine Subscript_ (thn (he.run pins s σ H _ I h) fun v s1 ⟨x, H1, I1, r1, q1⟩ => ?_)
  obtain ⟨a, xs, ex, hx, q⟩ := q1
  subst ex
  cases r1
  have hst : PO X (some (.UnaryOp .USub (.Constant (.int 1) k p1) p2)) (tPart (tUn (rU fun i => .int (-i)) (tC (.int 1)))) := po_some (pe_un un_neg pe_int)
  refine wpAny_Slice (thn (po_none.run pins s1 σ H1 (fun o H2 => o = none ∧ H2 = H1) I1 ⟨rfl, rfl⟩) fun vl s2 ⟨l, H2, I2, pl, el, e2⟩ => ?_)
  subst el e2
  refine thn (po_none.run pins s2 σ H2 (fun o H3 => o = none ∧ H3 = H2) I2 ⟨rfl, rfl⟩) fun vu s3 ⟨u, H3, I3, pu, eu, e3⟩ => ?_
  subst eu e3
  refine thn (hst.run pins s3 σ H3 (fun o H4 => o = some (-1) ∧ H4 = H3) I3 ⟨1, rfl, -1, rfl, rfl, rfl⟩) fun vs s4 ⟨o, H4, I4, ps, eo, e4⟩ => ?_
  subst eo e4
  cases pl
  cases pu
  have I5 : Inv X pins σ H4 { s4 with heap := s4.heap.push { cls := .type "slice", data := .fields #[.none, .none, vs] } } := I4.kept (t' := s4.toks) fun b ob q => Heap.get?_push_of_some _ q
  obtain ⟨its, r, ht, hz⟩ := I5.tuple hx
  have hlen := r.length
  show wpAny (model X.prog X.w) X.A (subscriptTail e (.Slice none none (some (.UnaryOp .USub (.Constant (.int 1) k p1) p2)) p3) (.ref a) (.ref s4.heap.objs.size)) (EP X pins σ Q) X.xe { s4 with heap := s4.heap.push { cls := .type "slice", data := .fields #[.none, .none, vs] } }
  refine tail_any (ops := [.ref a, .ref s4.heap.objs.size]) ht.typeIs PyProof.Rows.slot_tuple_getitem.lookup ?_ (by with_unfolding_all rfl)
  refine rev_tuple ht (Heap.IsSliceOf.new _ .none .none vs) ps ?_ (by rw [List.size_toArray]; omega)
  refine ⟨.ref _, _, I5.laid (t' := s4.toks) (o := .tup xs.reverse) (fun b ob q => Heap.get?_push_of_some _ q) (Nat.le_refl _) ?_, rfl, q _ (I5.hok.fresh (Nat.le_refl _))⟩
  exact ⟨by rw [List.length_reverse]; exact hz, _, r.reverse, _, Heap.get?_push_size _ rfl, rfl, _, rfl⟩
theorem RepL.reverse {L m : List Addr} {H : Hp} : ∀ {xs : List Vl} {us : List V}, RepL Γ L m H xs us → RepL Γ L m H xs.reverse us.reverse
  | [], [], _ => trivial
  | x :: xs, u :: us, h => by
    rw [List.reverse_cons, List.reverse_cons]
    exact (RepL.reverse h.2).append ⟨h.1, trivial⟩
  | [], _ :: _, h => h.elim
  | _ :: _, [], h => h.elim
theorem s_rev {k : Nat} (C : Cn X Γ W) (ha : PE X e (tE Γ W ea)) : PE X (.Subscript e (.Slice none none (some (.UnaryOp .USub (.Constant (.int 1) k p1) p2)) p3) pos) (tE Γ W fun env h => bnd (ea env h) fun x h => lift (revW h x) h) := by
  refine ⟨fun pins s σ H Q I hq => ?_⟩
  obtain ⟨L, m, h, env, rh, re, kk⟩ := hq
  dsimp only at kk
  have asL : (∀ m1 H1 x h1 u, Grow m H m1 H1 → RepH Γ L m1 h1 H1 → RepV Γ L m1 H1 x u → okG Γ W L m1 H1 σ (fun m' H' => RepV Γ L m' H') (lift (revW h1 x) h1) Q → ∃ a xs, u = .ref a ∧ SqL X.K H1 a xs ∧ ∀ p, H1 p = none → Q (.ref p) (upd H1 p (.lst xs.reverse))) → wpAny (model X.prog X.w) X.A (eval (.Subscript e (.Slice none none (some (.UnaryOp .USub (.Constant (.int 1) k p1) p2)) p3) pos) X.env) (EP X pins σ Q) X.xe s := fun st =>
    (pe_revL ha).run pins s σ H Q I ⟨L, m, h, env, rh, re, kk.bind st⟩
  have asT : (∀ m1 H1 x h1 u, Grow m H m1 H1 → RepH Γ L m1 h1 H1 → RepV Γ L m1 H1 x u → okG Γ W L m1 H1 σ (fun m' H' => RepV Γ L m' H') (lift (revW h1 x) h1) Q → ∃ a xs, u = .ref a ∧ SqT X.K H1 a xs ∧ ∀ p, H1 p = none → Q (.ref p) (upd H1 p (.tup xs.reverse))) → wpAny (model X.prog X.w) X.A (eval (.Subscript e (.Slice none none (some (.UnaryOp .USub (.Constant (.int 1) k p1) p2)) p3) pos) X.env) (EP X pins σ Q) X.xe s := fun st =>
    (pe_revT ha).run pins s σ H Q I ⟨L, m, h, env, rh, re, kk.bind st⟩
  by_cases hT : ∃ xs h1, ea env h = .ok (.tup xs) h1
  · obtain ⟨xs, h1, e1⟩ := hT
    rw [e1] at kk
    refine (pe_revT ha).run pins s σ H Q I ⟨L, m, h, env, rh, re, ?_⟩
    rw [e1]
    intro m1 H1 u g1 rh1 rx
    obtain ⟨a, us, rfl, q, r⟩ := rx
    have k1 : okG Γ W L m1 H1 σ (fun m' H' => RepV Γ L m' H') (.ok (.tup xs.reverse) h1) Q := okG.later kk g1 rh1
    rw [C.K]
    exact ⟨a, us, rfl, q, fun p hp => okV.newT k1 rh1 hp r.reverse⟩
  · refine (pe_revL ha).run pins s σ H Q I ⟨L, m, h, env, rh, re, ?_⟩
    cases e1 : ea env h with
    | exc c p h1 =>
      rw [e1] at kk
      exact kk
    | bad =>
      rw [e1] at kk
      exact kk
    | ok x h1 =>
      rw [e1] at kk
      intro m1 H1 u g1 rh1 rx
      have k1 : okG Γ W L m1 H1 σ (fun m' H' => RepV Γ L m' H') (lift (revW h1 x) h1) Q := okG.later kk g1 rh1
      obtain ⟨z, ez, kz⟩ := k1.lift
      rw [C.K]
      unfold revW at ez
      split at ez
      · rename_i xs
        exact absurd ⟨xs, h1, e1⟩ hT
      · split at ez
        · rename_i xs hx
          cases Option.some.inj ez
          split at hx
          · rename_i ys
            cases Option.some.inj hx
            obtain ⟨a, us, rfl, q, r⟩ := rx
            exact ⟨a, us, rfl, (scr_sq ⟨_, rh1⟩ q).1, fun p hp => okV.newL kz rh1 hp r.reverse⟩
          · obtain ⟨a, us, rfl, q, r⟩ := lstOf_rep rh1 rx hx
            exact ⟨a, us, rfl, SqL.of q, fun p hp => okV.newL kz rh1 hp r.reverse⟩
        · cases ez
theorem RepH.dnew {L m : List Addr} {H : Hp} {h : Hh} {p : Addr} (r : RepH Γ L m h H) (hp : H p = none) : RepH Γ L (m ++ [p]) (h ++ [.dct []]) (upd H p (.dK [])) where
  len := by rw [List.length_append, List.length_append, r.len]; rfl
  nd := by
    rw [List.nodup_append]
    refine ⟨r.nd, by simp, fun a ha b hb z => ?_⟩
    rw [List.mem_singleton.mp hb] at z
    exact (r.out hp).1 (z ▸ ha)
  ap := fun a ha => by
    rcases List.mem_append.mp ha with ha | ha
    · exact r.ap a ha
    · rw [List.mem_singleton.mp ha]
      exact (r.out hp).2
  ob := fun i a o e1 e2 => by
    by_cases hi : i < m.length
    · rw [List.getElem?_append_left hi] at e1
      rw [List.getElem?_append_left (by rw [← r.len]; exact hi)] at e2
      have x := r.ob i a o e1 e2
      obtain ⟨v, hv, _⟩ := x.there
      exact x.grow (Grow.alloc hp) (upd_ne (ne_of_none hv hp))
    · have hm : i = m.length := by
        have := (List.getElem?_eq_some_iff.mp e1).1
        rw [List.length_append, List.length_singleton] at this
        omega
      subst hm
      rw [List.getElem?_append_right (Nat.le_refl _), Nat.sub_self] at e1
      rw [r.len, List.getElem?_append_right (Nat.le_refl _), Nat.sub_self] at e2
      cases e1
      cases e2
      exact ⟨[], upd_same, trivial⟩
  res := fun a ha => by
    obtain ⟨us, e⟩ := r.res a ha
    exact ⟨us, by rw [upd_ne (ne_of_none e hp)]; exact e⟩
  tb := tabs_fresh r.tb hp
theorem s_dnew : PE X (.Dict [] [] pos) (tE Γ W fun _ h => .ok (.ref h.length) (h ++ [.dct []])) := by
  refine pe_imp pe_dnewK fun σ H Q hq => ?_
  obtain ⟨L, m, h, env, rh, re, k⟩ := hq
  intro p hp
  refine k (m ++ [p]) _ (.ref p) (Grow.alloc hp) (rh.dnew hp) ⟨p, rfl, ?_⟩
  rw [← rh.len, List.getElem?_append_right (Nat.le_refl _), Nat.sub_self]
  rfl
theorem CallR.or {f : Value} {r r' : List V → Hp → VK → Prop} (h : CallR X f r) (h' : CallR X f r') : CallR X f (fun xs H Q => r xs H Q ∨ r' xs H Q) := by
  intro pins s σ H xs us Q I rr q
  rcases q with q | q
  · exact h pins s σ H xs us Q I rr q
  · exact h' pins s σ H xs us Q I rr q
theorem keys_rep {L m : List Addr} {H : Hp} : ∀ {kvs : List (Vl × Vl)} {us : List (Key × V)} {ks : List Int}, RepKs Γ L m H kvs us → intsOf (kvs.map (·.1)) = some ks → us.map (·.1) = ks.map Sum.inl
  | [], [], ks, _, e => by cases Option.some.inj e; rfl
  | (a, x) :: r, (k, u) :: us, ks, h, e => by
    obtain ⟨h1, _, h3⟩ := h
    cases a with
    | int i =>
      have e' : (match intsOf (r.map (·.1)) with | some l => some (i :: l) | none => none) = some ks := e
      split at e'
      · rename_i l hl
        cases Option.some.inj e'
        rw [List.map_cons, List.map_cons, keys_rep h3 hl]
        cases (show k = .inl i from h1)
        rfl
      · cases e'
    | _ => cases e
  | [], _ :: _, _, h, _ => h.elim
  | _ :: _, [], _, h, _ => h.elim
def srtR2 (rev : Bool) (x : Vl) (h : Hh) : R (List Vl) := match lstOf h x with
  | some l => match intsOf l with
    | some l => match rev with
      | true => .ok ((sortI l).reverse.map .int) h
      | false => .ok ((sortI l).map .int) h
    | none => .bad
  | none => match dkeys h x with
    | some ks => match rev with
      | true => .bad
      | false => match decide (ks.length < 64) with
        | true => .ok ((sortI ks).map .int) h
        | false => .bad
    | none => .bad
theorem f_sorted2 (C : Cn X Γ W) (hg : Gl X "sorted") (hm : Γ.mg "sorted" = none) (ha : PE X e (tE Γ W ea)) (hst : isStar e = false) :
    PE X (.Call (.Name "sorted" p) [e] [] pos) (tF Γ W fun env h => bnd (ea env h) (srtR2 false)) := by
  rw [← C.mg] at hm
  refine pe_imp (pe_callB (CallR.or (cb_sorted (Γ := Γ)) (call_sortedDI C.calm)) hg hm PyProof.Rows.boot_sorted (pa_cons ha pa_nil (star_cons hst)) (by decide) (by decide) (star_cons hst) rfl) fun σ H Q hq => ?_
  obtain ⟨L, m, h, env, rh, re, kk⟩ := hq
  refine ⟨L, m, h, env, rh, re, okF.bind rh kk fun m1 H1 x h1 u g1 rh1 rx k1 => ?_⟩
  unfold srtR2 at k1
  split at k1
  · rename_i l hl
    split at k1
    · rename_i l2 hl2
      exact .inl ⟨L, m1, h1, x, u, l, l2, rfl, rh1, rx, hl, hl2, k1⟩
    · exact k1.elim
  · split at k1
    · rename_i ks hk
      dsimp only at k1
      split at k1
      · rename_i hd
        unfold dkeys at hk
        split at hk
        · rename_i n
          obtain ⟨a, rfl, q⟩ := rx
          split at hk
          · rename_i kvs hkv
            obtain ⟨us, e2, rr⟩ := rh1.at_ q hkv
            refine .inr ⟨a, us, ks, rfl, Rd.of e2, keys_rep rr hk, of_decide_eq_true hd, fun ys p pm so hp => ?_⟩
            have := sortI_one pm so
            subst this
            exact okN.new k1 rh1 hp ints_map
          · cases hk
        · cases hk
      · exact k1.elim
    · exact k1.elim
theorem f_sortedR2 {j : Nat} {p2 p3 : Pos} (C : Cn X Γ W) (hg : Gl X "sorted") (hm : Γ.mg "sorted" = none) (ha : PE X e (tE Γ W ea)) (hst : isStar e = false) :
    PE X (.Call (.Name "sorted" p) [e] [⟨some "reverse", .Constant (.bool true) j p2, p3⟩] pos) (tF Γ W fun env h => bnd (ea env h) (srtR2 true)) := by
  refine pe_imp (f_sortedR C hg hm ha hst) fun σ H Q hq => ?_
  obtain ⟨L, m, h, env, rh, re, kk⟩ := hq
  refine ⟨L, m, h, env, rh, re, ?_⟩
  show okF Γ W L m H σ (bnd (ea env h) (srtR true)) Q
  dsimp only at kk
  cases hr : ea env h with
  | bad => rw [hr] at kk; exact kk
  | exc c p h1 => rw [hr] at kk; exact kk
  | ok x h1 =>
    rw [hr] at kk
    replace kk : okF Γ W L m H σ (srtR2 true x h1) Q := kk
    show okF Γ W L m H σ (srtR true x h1) Q
    unfold srtR2 at kk
    unfold srtR
    split at kk
    · rename_i l hl
      first | exact kk | (rw [hl]; exact kk)
    · split at kk
      · exact kk.elim
      · exact kk.elim
theorem rgV_rep {L m : List Addr} {H : Hp} {a b : Int} : RepL Γ L m H (rangeL (b - a).toNat a 1) (rgV a b) := by
  refine RepL.of_get (by rw [rangeL_length, rgV_length]) fun i x v h1 h2 => ?_
  have hi : i < (b - a).toNat := by
    have := (List.getElem?_eq_some_iff.mp h1).1
    rwa [rangeL_length] at this
  rw [rangeL_get _ _ _ _ hi] at h1
  cases h1
  unfold rgV at h2
  rw [List.getElem?_map, List.getElem?_range hi] at h2
  cases h2
  show V.int _ = V.int _
  rw [Int.mul_one]
theorem f_lrg1 {e1 : Expr} {p2 pos2 : Pos} (C : Cn X Γ W) (hg : Gl X "list") (hm : Γ.mg "list" = none) (hg2 : Gl X "range") (hm2 : Γ.mg "range" = none) (ha : PE X a (tE Γ W ea)) (hst : isStar a = false) :
    PE X (.Call (.Name "list" p) [.Call (.Name "range" p2) [a] [] pos2] [] pos) (tF Γ W fun env h => bnd (bnd (ea env h) fun x h => bnd (.ok [] h) fun xs h => .ok (x :: xs) h) fun xs h => lift (rngL xs) h) := by
  rw [← C.mg] at hm hm2
  refine pe_imp (pe_listRg C.calm hg hm (prg_1 hg2 hm2 ha (star_cons hst)) rfl) fun σ H Q hq => ?_
  obtain ⟨L, m, h, env, rh, re, k⟩ := hq
  dsimp only at k
  rw [bnd_bnd] at k
  refine ⟨L, m, h, env, rh, re, okF.bind rh k fun m1 H1 x h1 u g1 rh1 rx k1 => ?_⟩
  replace k1 : okF Γ W L m1 H1 σ (lift (rngL [x]) h1) Q := k1
  obtain ⟨z, ez, kz⟩ := k1.lift
  cases x with
  | int n =>
    cases (show u = .int n from rx)
    replace ez : (if n.natAbs < 1000000 then some (rangeL n.toNat 0 1) else none) = some z := ez
    split at ez
    · rename_i hn
      cases Option.some.inj ez
      refine ⟨n, rfl, ⟨by omega, by omega, by omega, by omega, by omega⟩, fun q hq => okN.new kz rh1 hq ?_⟩
      have := rgV_rep (Γ := Γ) (L := L) (m := m1) (H := H1) (a := 0) (b := n)
      rw [Int.sub_zero] at this
      exact this
    · cases ez
  | _ => cases ez
theorem f_lrg2 {p2 pos2 : Pos} (C : Cn X Γ W) (hg : Gl X "list") (hm : Γ.mg "list" = none) (hg2 : Gl X "range") (hm2 : Γ.mg "range" = none) (ha : PE X a (tE Γ W ea)) (hb : PE X b (tE Γ W eb)) (hst : noStars [a, b] = true) :
    PE X (.Call (.Name "list" p) [.Call (.Name "range" p2) [a, b] [] pos2] [] pos) (tF Γ W fun env h => bnd (bnd (ea env h) fun x h => bnd (bnd (eb env h) fun x h => bnd (.ok [] h) fun xs h => .ok (x :: xs) h) fun xs h => .ok (x :: xs) h) fun xs h => lift (rngL xs) h) := by
  rw [← C.mg] at hm hm2
  obtain ⟨s1, s2⟩ := noStars_cons hst
  obtain ⟨s3, s4⟩ := noStars_cons s2
  refine pe_imp (pe_listRg C.calm hg hm (prg_2 hg2 hm2 ha hb (star_cons s1) (star_cons s3) (noStars_any s2)) rfl) fun σ H Q hq => ?_
  obtain ⟨L, m, h, env, rh, re, k⟩ := hq
  dsimp only at k
  rw [bnd_bnd] at k
  refine ⟨L, m, h, env, rh, re, okF.bind rh k fun m1 H1 x h1 u g1 rh1 rx k1 => ?_⟩
  rw [bnd_bnd, bnd_bnd] at k1
  refine ⟨L, m1, h1, env, rh1, re.grow g1, okF.bind rh1 k1 fun m2 H2 y h2 v g2 rh2 ry k2 => ?_⟩
  replace k2 : okF Γ W L m2 H2 σ (lift (rngL [x, y]) h2) Q := k2
  obtain ⟨z, ez, kz⟩ := k2.lift
  unfold rngL at ez
  split at ez
  · rename_i z
    cases z
  · rename_i i j z
    cases z
    cases (show u = .int _ from rx)
    cases (show v = .int _ from ry)
    split at ez
    · rename_i h1
      split at ez
      · rename_i h2
        cases Option.some.inj ez
        exact ⟨_, _, rfl, rfl, ⟨by omega, by omega, by omega, by omega, by omega⟩, fun q hq => okN.new kz rh2 hq rgV_rep⟩
      · cases ez
    · cases ez
  · cases ez
def trgR (xs : List Vl) (h : Hh) : R Vl := match rngL xs with
  | some l => .ok (.tup l) h
  | none => .bad
theorem s_trg1 {p2 pos2 : Pos} (C : Cn X Γ W) (hg : Gl X "tuple") (hm : Γ.mg "tuple" = none) (hg2 : Gl X "range") (hm2 : Γ.mg "range" = none) (ha : PE X a (tE Γ W ea)) (hst : isStar a = false) :
    PE X (.Call (.Name "tuple" p) [.Call (.Name "range" p2) [a] [] pos2] [] pos) (tE Γ W fun env h => bnd (bnd (ea env h) fun x h => bnd (.ok [] h) fun xs h => .ok (x :: xs) h) trgR) := by
  rw [← C.mg] at hm hm2
  refine pe_imp (pe_tupRg C.calm hg hm (prg_1 hg2 hm2 ha (star_cons hst)) rfl) fun σ H Q hq => ?_
  obtain ⟨L, m, h, env, rh, re, k⟩ := hq
  dsimp only at k
  rw [bnd_bnd] at k
  refine ⟨L, m, h, env, rh, re, k.bind fun m1 H1 x h1 u g1 rh1 rx k1 => ?_⟩
  replace k1 : okG Γ W L m1 H1 σ (fun m' H' => RepV Γ L m' H') (trgR [x] h1) Q := k1
  unfold trgR at k1
  split at k1
  · rename_i z ez
    cases x with
    | int n =>
      cases (show u = .int n from rx)
      replace ez : (if n.natAbs < 1000000 then some (rangeL n.toNat 0 1) else none) = some z := ez
      split at ez
      · rename_i hn
        cases Option.some.inj ez
        refine ⟨n, rfl, ⟨by omega, by omega, by omega, by omega, by omega⟩, fun q hq => okV.newT k1 rh1 hq ?_⟩
        have := rgV_rep (Γ := Γ) (L := L) (m := m1) (H := H1) (a := 0) (b := n)
        rw [Int.sub_zero] at this
        exact this
      · cases ez
    | _ => cases ez
  · exact k1.elim
end
end Mi
set_option Elab.async false
set_option linter.all false
set_option maxRecDepth 100000
set_option maxHeartbeats 4000000
namespace Mi
open PySem PySem.Spec PyProof.Rows L2
structure Kl (Γ : Gm) (G : GT) (ats : List (Str × Nat)) : Prop where
  sl : ∀ c x f i, ats.lookup x = some f → G.at_ c f = some (.inl i) → L2.SCls Γ.K (Γ.ca c) ∧ ∃ p, L2.Slt Γ.K (Γ.ca c) x i p
  pr : ∀ c x f g, ats.lookup x = some f → G.at_ c f = some (.inr g) → L2.SCls Γ.K (Γ.ca c) ∧ ∃ p rest, PySem.W.findIn Γ.K (.ref (Γ.ca c)) x = some (some (.ref p)) ∧
    PySem.W.specialIn Γ.K (.ref p) "__get__" = some (some (.builtin "property.__get__")) ∧ PySem.W.takesIn Γ.K (.ref p) = some true ∧ PySem.W.recIn Γ.K p "property" = some (.ref (Γ.fa g) :: rest)
structure KlMk (Γ : Gm) (G : GT) (c : Nat) : Prop where
  made : ∀ f k, G.init c = some (f, k) → L2.Mk Γ.K (Γ.ca c) (Γ.fa f)
  ok : Γ.cok c = true
section
variable {X : Cx} {Γ : Gm} {W : WX} {G : GT} {cf : CF} {k f c : Nat} {x : Str} {p pos apos : Pos} {e : Expr} {es : List Expr} {el : Env → Hh → R (List Vl)} {ea : Env → Hh → R Vl}
theorem okG.noX {α β : Type} {W' : WX} {L m : List Addr} {H : Hp} {σ σ' : L2.St} {rel : List Addr → Hp → α → β → Prop} {r : R α} {Q : β → Hp → Prop} (k : okG Γ W L m H σ rel (noX r) Q) : okG Γ W' L m H σ' rel r Q := by
  cases r with
  | ok a h => exact k
  | exc c p h => exact k.elim
  | bad => exact k.elim
theorem prop_at {L m : List Addr} {h : Hh} {H : Hp} {a dx q : Addr} {g : Nat} {vs : List (Option V)} {rest : List Value} {v : Vl} {b : Bool} {pins : List (Addr × Obj)} {σ : L2.St} {s : Shared} {Q : VK} (C : Cn X Γ W) (F : FnI Γ cf (k - 1) g) (hr : Room k X.A) (hk : 1 ≤ k ∨ ∀ f xs h, cf f xs h = .bad) (I : Inv X pins σ H s)
    (hs : SlAt H a (Γ.ca c) dx vs) (kc : L2.SCls Γ.K (Γ.ca c)) (k1 : PySem.W.findIn Γ.K (.ref (Γ.ca c)) x = some (some (.ref q))) (k2 : PySem.W.specialIn Γ.K (.ref q) "__get__" = some (some (.builtin "property.__get__"))) (k3 : PySem.W.takesIn Γ.K (.ref q) = some true)
    (k4 : PySem.W.recIn Γ.K q "property" = some (.ref (Γ.fa g) :: rest)) (hp : PySem.W.plainGet Γ.K (Γ.ca c) x = true)
    (rh : RepH Γ L m h H) (rv : RepV Γ L m H v (.ref a)) (kk : okG Γ W L m H σ (fun m' H' => RepV Γ L m' H') (noX (cf g [v] h)) Q) : wpAny (model X.prog X.w) X.A (getAttr (.ref a) x b) (EP X pins σ Q) X.xe s := by
  obtain ⟨us, od, _, _, J⟩ := L2.slAt_get I hs
  have hk : 1 ≤ k := by
    rcases hk with hk | hk
    · exact hk
    · rw [hk] at kk
      exact kk.elim
  obtain ⟨fd, ps, F', hb⟩ := F.ok
  rw [← C.prog, ← C.w, ← C.K, ← C.mg, ← C.base] at F'
  rw [← C.K] at hb kc k1 k2 k3 k4 hp
  have FR := FnOk.raw F' hb .nil
  have J1 : Inv X pins σ H { s with toks := s.toks + 1 } := I.tok (s.toks + 1)
  have hr1 : Room (k - 1) X.A.in1 := by
    have : Room (k - 1 + 1) X.A := hr.mono (by omega)
    exact this.in1
  refine PySem.W.get_bind I.kIn J (PySem.W.plainGet_of hp).1 (PySem.W.findObj_data kc.ic k1 k2 k3) (PySem.W.plainGet_of hp).2 (wpAny_call (PySem.W.prop_get (s := { s with toks := s.toks + 1 }) I.kIn k4 ?_))
  refine codeAny_mono (FR X.A.in1 X.stack { s with toks := s.toks + 1 } H [.ref a] [.ref a] Q (fun _ _ _ => False) hr1 J1.env0.in1 (.cons rfl .nil) ⟨L, m, h, [v], rh, ⟨rv, trivial⟩, kk.noX⟩) fun r s' z => ?_
  cases r with
  | error e =>
    obtain ⟨_, _, _, _, _, _, _, _, _, _, _, _, z⟩ := z
    exact z.elim
  | ok fl =>
    cases fl with
    | ret u =>
      obtain ⟨v2, H2, I2, r2, q2⟩ := J1.after z
      exact wpAny_of_eq (PySem.W.handedOut_of (handed_of r2)) ⟨v2, H2, I2, r2, q2⟩
    | next => exact z.elim
    | brk => exact z.elim
    | cont => exact z.elim
theorem s_attr {ats : List (Str × Nat)} (C : Cn X Γ W) (T : Kl Γ G ats) (F : ∀ g, FnI Γ cf (k - 1) g) (hr : Room k X.A) (hk : 1 ≤ k ∨ ∀ f xs h, cf f xs h = .bad) (hx : ats.lookup x = some f) (he : PE X e (tE Γ W ea)) (hb : attributeBase e x X.env (eval e X.env) = eval e X.env) :
    PE X (.Attribute e x pos) (tE Γ W fun env h => bnd (ea env h) (attrR G cf f)) := by
  refine ⟨fun pins s σ H Q I hq => ?_⟩
  obtain ⟨L, m, h, env, rh, re, kk⟩ := hq
  refine attr_of hb (thn (he.run pins s σ H (fun v H1 => ∃ m1 h1 y, RepH Γ L m1 h1 H1 ∧ RepV Γ L m1 H1 y v ∧ okG Γ W L m1 H1 σ (fun m' H' => RepV Γ L m' H') (attrR G cf f y h1) Q) I ⟨L, m, h, env, rh, re, kk.bind fun m1 H1 y h1 u g1 rh1 ry k1 => ⟨m1, h1, y, rh1, ry, k1⟩⟩) fun u s1 ⟨v, H1, I1, r1, m1, h1, y, rh1, ry, k1⟩ => ?_)
  unfold attrR at k1
  split at k1
  · rename_i c xs
    obtain ⟨a, dx, vs, us, rfl, q, n1, n2, n3, n4, fo, rl⟩ := ry
    have e1 : u = Value.ref a := r1
    subst e1
    split at k1
    · rename_i i hi
      obtain ⟨kc, p', ks⟩ := T.sl c x f i hx hi
      rw [← C.K] at kc ks
      cases hv : xs[i]? with
      | none => rw [hv] at k1; exact k1.elim
      | some z =>
        rw [hv] at k1
        obtain ⟨w, e2, e3⟩ := rl.get hv
        exact getslot_ok I1 q kc ks (fo.2 i w e2) fun u' s2 I2 ru => ⟨w, H1, I2, ru, k1 m1 H1 w (Grow.refl _ _) rh1 e3⟩
    · rename_i g hi
      obtain ⟨kc, p', rest, j1, j2, j3, j4⟩ := T.pr c x f g hx hi
      exact prop_at C (F g) hr hk I1 q kc j1 j2 j3 j4 kc.pg rh1 (v := .ins c xs) ⟨a, dx, vs, us, rfl, q, n1, n2, n3, n4, fo, rl⟩ k1
    · exact k1.elim
  · rename_i n
    obtain ⟨a, rfl, q⟩ := ry
    have e1 : u = Value.ref a := r1
    subst e1
    split at k1
    · rename_i c xs hn
      obtain ⟨dx, vs, qs, n1, n2, fs⟩ := rh1.at_ q hn
      split at k1
      · rename_i i hi
        obtain ⟨kc, p', ks⟩ := T.sl c x f i hx hi
        rw [← C.K] at kc ks
        split at k1
        · rename_i z hz
          obtain ⟨w, e2, e3⟩ := fs i z hz
          exact getslot_ok I1 qs kc ks e2 fun u' s2 I2 ru => ⟨w, H1, I2, ru, k1 m1 H1 w (Grow.refl _ _) rh1 e3⟩
        · exact k1.elim
      · rename_i g hi
        obtain ⟨kc, p', rest, j1, j2, j3, j4⟩ := T.pr c x f g hx hi
        exact prop_at C (F g) hr hk I1 qs kc j1 j2 j3 j4 kc.pg rh1 (v := .ref n) ⟨a, rfl, q⟩ k1
      · exact k1.elim
    · exact k1.elim
  · exact k1.elim
theorem slots_us {L m : List Addr} {H : Hp} {vs : List (Option V)} : ∀ {xs : List (Option Vl)} {l : List Vl} {j : Nat}, allSome xs = some l → (∀ (i : Nat) (x : Vl), xs[i]? = some (some x) → ∃ u, vs[j + i]? = some (some u) ∧ RepV Γ L m H x u) →
    ∃ us, RepL Γ L m H l us ∧ ∀ (i : Nat) (u : V), us[i]? = some u → vs[j + i]? = some (some u)
  | [], l, j, e, _ => by
    cases Option.some.inj e
    exact ⟨[], trivial, fun i u z => by simp at z⟩
  | none :: r, l, j, e, _ => by cases e
  | some x :: r, l, j, e, h => by
    unfold allSome at e
    split at e
    · rename_i l' hl
      cases Option.some.inj e
      obtain ⟨u, h1, h2⟩ := h 0 x rfl
      obtain ⟨us, h3, h4⟩ := slots_us (xs := r) (l := l') (j := j + 1) hl fun i y hy => by
        obtain ⟨w, a, b⟩ := h (i + 1) y (by simpa using hy)
        exact ⟨w, by rw [show j + 1 + i = j + (i + 1) by omega]; exact a, b⟩
      refine ⟨u :: us, ⟨h2, h3⟩, fun i w hw => ?_⟩
      cases i with
      | zero =>
        cases Option.some.inj hw
        exact h1
      | succ i =>
        have := h4 i w (by simpa using hw)
        rw [show j + (i + 1) = j + 1 + i by omega]
        exact this
    · cases e
theorem Grow.made {m : List Addr} {H : Hp} {x dx C : Addr} (hx : H x = none) (hd : H dx = none) : Grow m H (m ++ [x]) (upd (upd H dx (.own x)) x (.ins C dx [])) where
  ext := ⟨[x], rfl, fun a h => by rw [List.mem_singleton.mp h]; exact hx⟩
  keep := fun a u e _ _ => by rw [upd_ne (ne_of_none e hx), upd_ne (ne_of_none e hd)]; exact e
  tup := fun a u e => by rw [upd_ne (ne_of_none e hx), upd_ne (ne_of_none e hd)]; exact e
  frz := fun a u v e => by rw [upd_ne (ne_of_none e hx), upd_ne (ne_of_none e hd)]; exact e
  own := fun a u e => by rw [upd_ne (ne_of_none e hx), upd_ne (ne_of_none e hd)]; exact e
  tbl := fun a ps e => ⟨ps, by rw [upd_ne (ne_of_none e hx), upd_ne (ne_of_none e hd)]; exact e⟩
theorem RepH.made {L m : List Addr} {h : Hh} {H : Hp} {x dx : Addr} {n : Nat} (r : RepH Γ L m h H) (hx : H x = none) (hd : H dx = none) (hn : dx ≠ x) : RepH Γ L (m ++ [x]) (h ++ [.ins c (List.replicate n none)]) (upd (upd H dx (.own x)) x (.ins (Γ.ca c) dx [])) where
  len := by rw [List.length_append, List.length_append, r.len]; rfl
  nd := by
    rw [List.nodup_append]
    refine ⟨r.nd, by simp, fun a ha b hb z => ?_⟩
    rw [List.mem_singleton.mp hb] at z
    obtain ⟨o, e⟩ := r.tracked a ha
    exact ne_of_none e hx z
  ap := fun a ha z => by
    rcases List.mem_append.mp ha with ha | ha
    · exact r.ap a ha z
    · rw [List.mem_singleton.mp ha] at z
      obtain ⟨us, e⟩ := r.res x z
      rw [hx] at e
      cases e
  ob := fun i a o e1 e2 => by
    by_cases hi : i < m.length
    · rw [List.getElem?_append_left hi] at e1
      rw [List.getElem?_append_left (by rw [← r.len]; exact hi)] at e2
      have y := r.ob i a o e1 e2
      obtain ⟨v, hv, _⟩ := y.there
      exact y.grow (Grow.made hx hd) (by rw [upd_ne (ne_of_none hv hx), upd_ne (ne_of_none hv hd)])
    · have hm : i = m.length := by
        have := (List.getElem?_eq_some_iff.mp e1).1
        rw [List.length_append, List.length_singleton] at this
        omega
      subst hm
      rw [List.getElem?_append_right (Nat.le_refl _), Nat.sub_self] at e1
      rw [r.len, List.getElem?_append_right (Nat.le_refl _), Nat.sub_self] at e2
      cases e1
      cases e2
      refine ⟨dx, [], SlAt.made hn, fun z => ?_, fun z => ?_, fun i y hy => ?_⟩
      · rcases List.mem_append.mp z with z | z
        · obtain ⟨o, e⟩ := r.tracked dx z
          rw [hd] at e
          cases e
        · exact hn (List.mem_singleton.mp z)
      · obtain ⟨us, e⟩ := r.res dx z
        rw [hd] at e
        cases e
      · have := List.mem_of_getElem? hy
        rw [List.mem_replicate] at this
        cases this.2
  res := fun a ha => by
    obtain ⟨us, e⟩ := r.res a ha
    exact ⟨us, by rw [upd_ne (ne_of_none e hx), upd_ne (ne_of_none e hd)]; exact e⟩
  tb := tabs_fresh (tabs_fresh r.tb hd) (by rw [upd_ne (Ne.symm hn)]; exact hx)
theorem made_ok {L m : List Addr} {h : Hh} {H : Hp} {σ : L2.St} {r : R Vl} {x dx : Addr} {Q : VK} (rh : RepH Γ L m h H) (hx : H x = none) (hd : H dx = none) (hn : dx ≠ x) (hc : Γ.cok c = true) (kk : okG Γ W L m H σ (fun m' H' => RepV Γ L m' H') (bnd r fun v h' => made c h.length v h') Q) :
    okG Γ W L (m ++ [x]) (upd (upd H dx (.own x)) x (.ins (Γ.ca c) dx [])) σ (fun m' H' => RepV Γ L m' H') r (fun v H2 => v = .non ∧ Q (.ref x) H2) := by
  have g0 : Grow m H (m ++ [x]) (upd (upd H dx (.own x)) x (.ins (Γ.ca c) dx [])) := Grow.made hx hd
  cases r with
  | bad => exact kk.elim
  | exc c' p h' => exact fun m' H' d g rh' rx => kk m' H' d (g0.tr (RepH.made rh hx hd hn (c := c) (n := 0)) g) rh' rx
  | ok v h1 =>
    intro m' H' u g rh' rv
    have kk : okG Γ W L m H σ (fun m' H' => RepV Γ L m' H') (made c h.length v h1) Q := kk
    unfold made at kk
    split at kk
    · have eu : u = .non := rv
      refine ⟨eu, ?_⟩
      split at kk
      · rename_i hl
        have hl := of_decide_eq_true hl
        split at kk
        · rename_i c' xs ho
          split at kk
          rotate_left
          · exact kk.elim
          rename_i ec
          have ec := (of_decide_eq_true ec).symm
          subst ec
          split at kk
          · rename_i l hal
            split at kk
            · rename_i w1
              split at kk
              · rename_i w2
                obtain ⟨t, et, _⟩ := g.ext
                have ht : t = [] := by
                  have a1 := rh'.len
                  rw [et, List.length_append, List.length_append, List.length_singleton, hl, rh.len] at a1
                  exact List.length_eq_zero_iff.mp (by omega)
                rw [ht, List.append_nil] at et
                subst et
                have em : h.length = m.length := rh.len.symm
                rw [em] at w1 w2 ho
                have hxm : (m ++ [x])[m.length]? = some x := by rw [List.getElem?_append_right (Nat.le_refl _), Nat.sub_self]; rfl
                have nxm : x ∉ m := fun z => by
                  obtain ⟨o, e⟩ := rh.tracked x z
                  rw [hx] at e
                  cases e
                obtain ⟨dx', vs, qs, n1, n2, fs⟩ := rh'.at_ hxm ho
                obtain ⟨us, h3, h4⟩ := slots_us (Γ := Γ) (vs := vs) (j := 0) hal fun i y hy => by rw [Nat.zero_add]; exact fs i y hy
                have g2 := g0.tr (RepH.made rh hx hd hn (c := c) (n := 0)) g
                rw [em] at kk
                refine kk m H' (.ref x) ⟨⟨[], by simp, fun _ z => nomatch z⟩, g2.keep, g2.tup, g2.frz, g2.own, g2.tbl⟩ (rh'.shrink w2) ⟨x, dx', vs, us, rfl, qs, nxm, rh'.ap x (List.mem_of_getElem? hxm), not_mem_left n1, n2, ⟨hc, fun i w hw => by have := h4 i w hw; rwa [Nat.zero_add] at this⟩, RepL.shrink w1 h3⟩
              · exact kk.elim
            · exact kk.elim
          · exact kk.elim
        · exact kk.elim
      · exact kk.elim
    · exact kk.elim
theorem run_mk {L m : List Addr} {h : Hh} {H : Hp} {f' n : Nat} {us : List Value} {vs : List V} {xs : List Vl} {pins : List (Addr × Obj)} {σ : L2.St} {s : Shared} {Q : VK} (C : Cn X Γ W) (F : FnI Γ cf (k - 1) f') (hr : Room k X.A) (hk : 1 ≤ k ∨ ∀ f xs h, cf f xs h = .bad) (M : L2.Mk Γ.K (Γ.ca c) (Γ.fa f')) (hc : Γ.cok c = true)
    (I : Inv X pins σ H s) (r : Vals vs us) (rh : RepH Γ L m h H) (rx : RepL Γ L m H xs vs) (kk : okG Γ W L m H σ (fun m' H' => RepV Γ L m' H') (bnd (cf f' (.ref h.length :: xs) (h ++ [.ins c (List.replicate n none)])) fun v h' => made c h.length v h') Q) :
    wpAny (model X.prog X.w) X.A (call (.ref (Γ.ca c)) us) (EP X pins σ Q) X.xe s := by
  have hk : 1 ≤ k := by
    rcases hk with hk | hk
    · exact hk
    · rw [hk] at kk
      exact kk.elim
  obtain ⟨fd, ps, F', hb⟩ := F.ok
  rw [← C.prog, ← C.w, ← C.K, ← C.mg, ← C.base] at F'
  rw [← C.K] at hb M
  have FR := FnOk.raw F' hb .nil
  have hr1 : Room (k - 1 + 1) X.A := hr.mono (by omega)
  have fx : H (s.heap.objs.size + 1) = none := I.hok.fresh (Nat.le_succ _)
  have fd' : H s.heap.objs.size = none := I.hok.fresh (Nat.le_refl _)
  have ne : s.heap.objs.size ≠ s.heap.objs.size + 1 := Nat.ne_of_lt (Nat.lt_succ_self _)
  have g := Grow.made (C := Γ.ca c) (m := m) fx fd'
  have rh2 := RepH.made (c := c) (n := n) rh fx fd' ne
  have k2 := made_ok rh fx fd' ne hc kk
  have I2 := Inv.made (C := Γ.ca c) I
  have hq : spC Γ cf f' (V.ref (s.heap.objs.size + 1) :: vs ++ []) (upd (upd H s.heap.objs.size (.own (s.heap.objs.size + 1))) (s.heap.objs.size + 1) (.ins (Γ.ca c) s.heap.objs.size [])) (fun v H2 => v = .non ∧ Q (.ref (s.heap.objs.size + 1)) H2) (WE W σ) := by
    rw [List.append_nil]
    refine ⟨L, m ++ [s.heap.objs.size + 1], h ++ [.ins c (List.replicate n none)], .ref h.length :: xs, rh2, ⟨⟨_, rfl, ?_⟩, rx.grow' g⟩, k2.at⟩
    rw [← rh.len, List.getElem?_append_right (Nat.le_refl _), Nat.sub_self]
    rfl
  have r2 : Vals (V.ref (s.heap.objs.size + 1) :: vs) (Value.ref (s.heap.objs.size + 1) :: us) := .cons rfl r
  refine wpAny_call (make_map (f := Γ.fa f') I.kIn M.makes M.init (beq_iff_eq.mp M.fn) (codeAny_mono (FR _ X.stack _ _ _ _ _ _ (hr1.make (Γ.ca c) us []) (I2.env0.make (Γ.ca c) us []) r2 hq) fun o s2 z => ?_))
  cases o with
  | error e => exact passAt C.tk σ pins _ _ e s2 I2 z
  | ok fl =>
    cases fl with
    | ret u =>
      obtain ⟨v, H3, I3, rv, ev, q3⟩ := I2.after z
      subst ev
      exact ⟨rv, V.ref (s.heap.objs.size + 1), H3, I3, rfl, q3⟩
    | next => exact z.elim
    | brk => exact z.elim
    | cont => exact z.elim
theorem s_mk (C : Cn X Γ W) (F : ∀ g, FnI Γ cf (k - 1) g) (hr : Room k X.A) (hk : 1 ≤ k ∨ ∀ f xs h, cf f xs h = .bad) (M : KlMk Γ G c) (hg : Gl X x) (hm : Γ.mg x = some (.ref (Γ.ca c))) (hdb : (x == ("__debug__" : Str)) = false) (kp : PySem.W.keepIn Γ.K (.ref (Γ.ca c)) = true) (ha : PA X (e :: es) (tL Γ W el)) (hst : noStars (e :: es) = true) :
    PE X (.Call (.Name x p) (e :: es) [] pos) (tE Γ W fun env h => match G.init c with
      | some (f, n) => bnd (el env h) fun xs h => bnd (cf f (.ref h.length :: xs) (h ++ [.ins c (List.replicate n none)])) fun v h' => made c h.length v h'
      | none => .bad) := by
  rw [← C.K] at kp
  rw [← C.mg] at hm
  obtain ⟨h1, h2⟩ := noStars_cons hst
  refine ⟨fun pins s σ H Q I hq => ?_⟩
  obtain ⟨L, m, h, env, rh, re, kk⟩ := hq
  dsimp only at kk
  cases hi : G.init c with
  | none => rw [hi] at kk; exact kk.elim
  | some fn =>
    obtain ⟨f', n⟩ := fn
    rw [hi] at kk
    dsimp only at kk
    refine wpAny_Call_Name_kw (ld_glob I hg hm ?_ hdb)
    refine PySem.W.callWith_K (h₀ := X.base) I.ok.mod.kin kp (thn (ha.run pos pins s σ H (fun vs H1 => ∃ m1 h1 xs, RepH Γ L m1 h1 H1 ∧ RepL Γ L m1 H1 xs vs ∧ okG Γ W L m1 H1 σ (fun m' H' => RepV Γ L m' H') (bnd (cf f' (.ref h1.length :: xs) (h1 ++ [.ins c (List.replicate n none)])) fun v h' => made c h1.length v h') Q) I ⟨L, m, h, env, rh, re, kk.bind fun m1 H1 xs h1 us g1 rh1 rx k1 => ⟨m1, h1, xs, rh1, rx, k1⟩⟩) fun us s1 ⟨vs, H1, I1, r, m', h', args, a1, a2, a3⟩ => ⟨I1.kIn, ?_⟩) (star_cons h1) (noStars_any h2)
    exact run_mk C (F f') hr hk (M.made _ _ hi) M.ok I1 r a1 a2 a3
theorem putS_at {i j : Nat} {v w : V} {vs : List (Option V)} (h : vs[j]? = some (some w)) (n : j ≠ i) : (putS i v vs)[j]? = some (some w) := by
  unfold putS
  rw [List.getElem?_set_ne (Ne.symm n)]
  rw [List.getElem?_append_left (List.getElem?_eq_some_iff.mp h).1]
  exact h
theorem putS_here (i : Nat) (v : V) (vs : List (Option V)) : (putS i v vs)[i]? = some (some v) := by
  unfold putS
  exact List.getElem?_set_self (by simp only [List.length_append, List.length_replicate]; omega)
theorem setF_some {h h' : Hh} {o v : Vl} {f : Nat} (e : setF G h o f v = some h') : ∃ n c xs i, o = .ref n ∧ h[n]? = some (.ins c xs) ∧ G.at_ c f = some (.inl i) ∧ i < xs.length ∧ h' = h.set n (.ins c (xs.set i (some v))) := by
  unfold setF at e
  split at e
  · rename_i n
    split at e
    · rename_i c xs hn
      split at e
      · rename_i i hi
        split at e
        · rename_i hl
          exact ⟨n, c, xs, i, rfl, hn, hi, hl, (Option.some.inj e).symm⟩
        · cases e
      · cases e
    · cases e
  · cases e
theorem set_rep {L m : List Addr} {h : Hh} {H : Hp} {n i : Nat} {xs : List (Option Vl)} {v : Vl} {a : Addr} {u : V} (rh : RepH Γ L m h H) (ha : m[n]? = some a) (hn : h[n]? = some (.ins c xs)) (hi : i < xs.length) (rv : RepV Γ L m H v u) :
    ∃ dx vs, SlAt H a (Γ.ca c) dx vs ∧ Grow m H m (upd H a (SlO (Γ.ca c) dx a (putS i u vs))) ∧ RepH Γ L m (h.set n (.ins c (xs.set i (some v)))) (upd H a (SlO (Γ.ca c) dx a (putS i u vs))) := by
  obtain ⟨dx, vs, qs, n1, n2, fs⟩ := rh.at_ ha hn
  have g : Grow m H m (upd H a (SlO (Γ.ca c) dx a (putS i u vs))) := Grow.write rh ha
  refine ⟨dx, vs, qs, g, rh.write ha (List.getElem?_eq_some_iff.mp hn).1 ⟨dx, putS i u vs, qs.here, n1, n2, fun j y hy => ?_⟩⟩
  by_cases hj : j = i
  · subst hj
    rw [List.getElem?_set_self hi] at hy
    cases Option.some.inj (Option.some.inj hy)
    exact ⟨u, putS_here _ _ _, rv.grow g⟩
  · rw [List.getElem?_set_ne (Ne.symm hj)] at hy
    obtain ⟨w, h1, h2⟩ := fs j y hy
    exact ⟨w, putS_at h1 hj, h2.grow g⟩
end
end Mi
set_option Elab.async false
set_option linter.all false
set_option maxRecDepth 100000
set_option maxHeartbeats 4000000
namespace Mi
open PySem PySem.Spec PyProof.Rows L2
section
variable {X : Cx} {Γ : Gm} {W : WX} {G : GT} {cf : CF} {k f c : Nat} {x : Str} {p p2 pos apos : Pos} {e o : Expr} {es : List Expr} {el : Env → Hh → R (List Vl)} {ea eo : Env → Hh → R Vl}
def tAtt (K : PySem.W.Frag) (x : Str) (o v : V) (H : Hp) (Q : Hp → Prop) : Prop := ∃ a C dx vs i q, o = .ref a ∧ SlAt H a C dx vs ∧ L2.SCls K C ∧ L2.Slt K C x i q ∧ Q (upd H a (SlO C dx a (putS i v vs)))
def gAtt (K : PySem.W.Frag) (x : Str) (to : TE) : TG := fun v σ H Q => to σ H fun ov H1 => tAtt K x ov v H1 fun H2 => Q σ H2
theorem pg_att {to : TE} (ho : PE X o to) : PG X (.Attribute o x apos) (gAtt X.K x to) := by
  refine ⟨fun pins s σ H v u Q I r hq => ?_⟩
  rw [assign_Attribute]
  refine wpAny_bind (wpAny_holding (thn (ho.run pins s σ H _ I hq) fun ov s1 ⟨y, H1, I1, r1, a, C, dx, vs, i, q, ey, hs, hc, hk, z⟩ => ?_))
  subst ey
  obtain rfl : ov = Value.ref a := r1
  refine wpAny_bind (wpAny_standAt (wpAny_bind (wpAny_holding (setslot_ok I1 hs hc hk r fun s2 I2 => ?_))))
  exact wpAny_release ⟨σ, _, I2, z⟩
theorem att_ok {ats : List (Str × Nat)} {L m : List Addr} {h h' : Hh} {H : Hp} {ov v : Vl} {a u : V} {Q : Hp → Prop} (T : Kl Γ G ats) (hx : ats.lookup x = some f) (rh : RepH Γ L m h H) (ro : RepV Γ L m H ov a) (rv : RepV Γ L m H v u) (e : setF G h ov f v = some h')
    (kk : ∀ H', Grow m H m H' → RepH Γ L m h' H' → Q H') : tAtt Γ.K x a u H Q := by
  obtain ⟨n, c, xs, i, rfl, hn, hi, hl, rfl⟩ := setF_some e
  obtain ⟨b, rfl, hm⟩ := ro
  obtain ⟨kc, q, ks⟩ := T.sl c x f i hx hi
  obtain ⟨dx, vs, hs, g, rh'⟩ := set_rep (c := c) rh hm hn hl rv
  exact ⟨b, _, dx, vs, i, q, rfl, hs, kc, ks, kk _ g rh'⟩
def setfR (G : GT) (f : Nat) (env : Env) (v x : Vl) (h : Hh) : R Oc := match setF G h x f v with
  | some h => .ok (.nx env) h
  | none => .bad
theorem s_setf {ats : List (Str × Nat)} (C : Cn X Γ W) (T : Kl Γ G ats) (hx : ats.lookup x = some f) (he : PE X e (tE Γ W ea)) (ho : PE X o (tE Γ W eo)) (hl : isLC e = false) (ht : isTup e = false) :
    PS X (.Assign [.Attribute o x apos] e pos) (tS Γ W fun env h => bnd (ea env h) fun v h => bnd (eo env h) fun y h => setfR G f env v y h) := by
  refine ps_imp (ps_asg he (pg_att ho) (show swapsWith e (some (.Attribute o x apos)) pos.line X.env = pure false from swaps_no hl) (swapped_no ht) rfl) fun D σ H hq => ?_
  obtain ⟨L, m, h, env, rh, re, kk⟩ := hq
  refine ⟨L, m, h, env, rh, re, okS.bind kk fun m1 H1 v h1 w g1 rh1 rv k1 => ⟨L, m1, h1, env, rh1, re.grow g1, okS.bind k1 fun m2 H2 y h2 u g2 rh2 ry k2 => ?_⟩⟩
  unfold setfR at k2
  split at k2
  · rename_i h3 hs
    rw [C.K]
    exact att_ok T hx rh2 ry (rv.grow g2) hs fun H' g3 rh3 => k2 m2 H' σ g3 rh3 (((re.grow g1).grow g2).grow g3)
  · exact k2.elim
def gAtts (K : PySem.W.Frag) (to : TE) : List Str → TGs
  | [] => gNil
  | x :: r => gCons (gAtt K x to) (gAtts K to r)
theorem atts_ok {ats : List (Str × Nat)} {L : List Addr} {env : Env} {σ : L2.St} {ov : Vl} (T : Kl Γ G ats) (hv : ∀ H1 m1 h1, RepH Γ L m1 h1 H1 → RepE Γ L m1 H1 env σ → ∀ Q : VK, (∀ m2 H2 u, Grow m1 H1 m2 H2 → RepH Γ L m2 h1 H2 → RepV Γ L m2 H2 ov u → Q u H2) → tE Γ W eo σ H1 Q) :
    ∀ {xs : List Str} {fs : List Nat} {vs : List Vl} {us : List V} {m : List Addr} {h h' : Hh} {H : Hp} {Q : L2.St → Hp → Prop}, Paired (fun x f => ats.lookup x = some f) xs fs → setFs G h ov fs vs = some h' → RepH Γ L m h H → RepE Γ L m H env σ → RepL Γ L m H vs us →
      (∀ m' H', Grow m H m' H' → RepH Γ L m' h' H' → RepE Γ L m' H' env σ → Q σ H') → gAtts Γ.K (tE Γ W eo) xs us σ H Q
  | [], [], [], [], m, h, h', H, Q, _, e, rh, re, _, kk => by
    cases Option.some.inj e
    exact ⟨rfl, kk m H (Grow.refl _ _) rh re⟩
  | x :: xs, f :: fs, v :: vs, u :: us, m, h, h', H, Q, hp, e, rh, re, rl, kk => by
    cases hp with
    | cons hx hp =>
      have e : (match setF G h ov f v with
        | some h => setFs G h ov fs vs
        | none => none) = some h' := e
      cases hs : setF G h ov f v with
      | none => rw [hs] at e; cases e
      | some h1 =>
        rw [hs] at e
        refine ⟨u, us, rfl, hv H m h rh re _ fun m2 H2 a g2 rh2 ra => att_ok T hx rh2 ra (rl.1.grow g2) hs fun H1 g1 rh1 => ?_⟩
        exact atts_ok T hv hp e rh1 ((re.grow g2).grow g1) ((rl.2.grow' g2).grow' g1) fun m3 H' g rh' re' => kk m3 H' ((g2.tr rh2 g1).tr rh1 g) rh' re'
  | [], [], [], _ :: _, _, _, _, _, _, _, _, _, _, rl, _ => rl.elim
  | [], [], _ :: _, _, _, _, _, _, _, _, e, _, _, _, _ => by cases e
  | _ :: _, _ :: _, [], _, _, _, _, _, _, _, e, _, _, _, _ => by cases e
  | _ :: _, _ :: _, _ :: _, [], _, _, _, _, _, _, _, _, _, rl, _ => rl.elim
  | [], _ :: _, _, _, _, _, _, _, _, hp, _, _, _, _, _ => by cases hp
  | _ :: _, [], _, _, _, _, _, _, _, hp, _, _, _, _, _ => by cases hp
theorem setFs_len {h' : Hh} {o : Vl} : ∀ {fs : List Nat} {vs : List Vl} {h : Hh}, setFs G h o fs vs = some h' → vs.length = fs.length
  | [], [], _, _ => rfl
  | [], _ :: _, _, e => by cases e
  | _ :: _, [], _, e => by cases e
  | f :: fs, v :: vs, h, e => by
    have e : (match setF G h o f v with
      | some h => setFs G h o fs vs
      | none => none) = some h' := e
    cases hs : setF G h o f v with
    | none => rw [hs] at e; cases e
    | some h1 =>
      rw [hs] at e
      rw [List.length_cons, List.length_cons, setFs_len e]
def parfR (G : GT) (o : Nat) (fs : List Nat) (el : Env → Hh → R (List Vl)) (env : Env) (h : Hh) : R Oc := match env[o]? with
  | some (some x) => bnd (el env h) fun vs h => match setFs G h x fs vs with
    | some h => .ok (.nx env) h
    | none => .bad
  | _ => .bad
theorem s_parf {ats : List (Str × Nat)} {i kt k2 : Nat} {pt pt2 : Pos} {ts vs : List Expr} {xs : List Str} {fs : List Nat} (C : Cn X Γ W) (T : Kl Γ G ats) (hp : Paired (fun x f => ats.lookup x = some f) xs fs) (hg : PGs X ts (gAtts X.K (tE Γ W fun env h => match env[i]? with
      | some (some v) => .ok v h
      | _ => .bad) xs)) (hl : ts.length = fs.length) (hst : noStars ts = true) (hz : fs.length ≤ 1000) (ha : PA X vs (tL Γ W el)) (hw : swappedStores [.Tuple ts kt pt] (.Tuple vs k2 pt2) X.env = pure none) :
    PS X (.Assign [.Tuple ts kt pt] (.Tuple vs k2 pt2) pos) (tS Γ W (parfR G i fs el)) := by
  refine ps_imp (ps_asg (pe_tup ha) (pg_tup C.calm hg ((assign_plain hst).1.trans hl) (assign_find hst)) (show swapsWith (.Tuple vs k2 pt2) (some (.Tuple ts kt pt)) pos.line X.env = pure false from swaps_tup) hw rfl) fun D σ H hq => ?_
  obtain ⟨L, m, h, env, rh, re, kk⟩ := hq
  unfold parfR at kk
  split at kk
  · rename_i y hy
    refine ⟨L, m, h, env, rh, re, okS.bind kk fun m1 H1 ys h1 us g1 rh1 rx k1 => ?_⟩
    split at k1
    · rename_i h2 hs
      have hlu : us.length = fs.length := by rw [← rx.length]; exact setFs_len (h := h1) hs
      have g2 : ∀ q, H1 q = none → Grow m1 H1 m1 (upd H1 q (.tup us)) := fun q hq => Grow.fresh hq
      refine ⟨by rw [hlu]; exact Nat.le_of_lt (small1000 hz), fun q hq => ?_⟩
      rw [C.K]
      refine ⟨q, us, rfl, SqT.of upd_same, hlu, ?_⟩
      refine atts_ok T (fun H3 m3 h3 rh3 re3 Q kq => ?_) hp hs (rh1.fresh hq) ((re.grow g1).grow (g2 q hq)) (rx.grow' (g2 q hq)) fun m' H' g rh' re' => k1 m' H' σ ((g2 q hq).tr (rh1.fresh hq) g) rh' re'
      refine ⟨L, m3, h3, env, rh3, re3, ?_⟩
      dsimp only
      rw [hy]
      exact fun m4 H4 u g4 rh4 ru => kq m4 H4 u g4 rh4 ru
    · exact k1.elim
  · exact kk.elim
end
end Mi
set_option Elab.async false
set_option linter.all false
set_option maxRecDepth 100000
set_option maxHeartbeats 4000000
namespace Mi
open PySem PySem.Spec PyProof.Rows L2
structure KlIs (Γ : Gm) (c : Nat) : Prop where
  base : ∀ T ∈ ["NoneType", "int", "bool", "str", "tuple", "list", "dict"], PySem.W.kitOne Γ.K (.type T) (.ref (Γ.ca c)) = some false
  own : ∀ d, Γ.cok d = true → PySem.W.kitOne Γ.K (.ref (Γ.ca d)) (.ref (Γ.ca c)) = some (d == c)
section
variable {X : Cx} {Γ : Gm} {W : WX} {c : Nat} {x : Str} {e : Expr} {p p2 pos : Pos} {ea : Env → Hh → R Vl}
def rIo (Γ : Gm) (W : WX) (σ : L2.St) (c : Nat) : List V → Hp → VK → Prop := fun xs H Q => ∃ x L m h a, xs = [x, .ref (Γ.ca c)] ∧ RepH Γ L m h H ∧ RepV Γ L m H a x ∧ okG Γ W L m H σ (fun m' H' => RepV Γ L m' H') (isownR c a h) Q
theorem kd_base {k : Kd} (hk : ∀ c, k ≠ .own c) : kdNm k ∈ ["NoneType", "int", "bool", "str", "tuple", "list", "dict"] := by
  cases k <;> first | exact absurd rfl (hk _) | decide
theorem cb_io {σ0 : L2.St} (C : Cn X Γ W) (ow : ∀ c, Γ.cok c = true → OwnOk Γ c) (T : KlIs Γ c) : CallR X (.builtin "isinstance") (rIo Γ W σ0 c) := by
  intro pins s σ H xs us Q I r hq
  obtain ⟨x, L, m, h, a, rfl, rh, ra, kk⟩ := hq
  unfold isownR at kk
  have plain : ∀ k, kdOf h a = some k → (∀ c, k ≠ .own c) → okG Γ W L m H σ0 (fun m' H' => RepV Γ L m' H') (.ok (.bl false) h) Q → wpAny (model X.prog X.w) X.A (call (.builtin "isinstance") us) (EP X pins σ Q) X.xe s := fun k ek hkk kk => by
    have ty := ty_kd rh ra ek hkk
    have tb := T.base _ (kd_base hkk)
    rw [← C.K] at ty tb
    exact call_isi pins s σ H _ us Q I r ⟨x, _, _, _, false, rfl, .own _, ty, tb, kk m H _ (Grow.refl _ _) rh rfl⟩
  cases ek : kdOf h a with
  | none =>
    rw [ek] at kk
    exact kk.elim
  | some k =>
    rw [ek] at kk
    cases k with
    | own d =>
      obtain ⟨xs, rfl⟩ := kd_ins ek
      obtain ⟨b, dx, vs, us', rfl, q, _, _, _, _, fo, _⟩ := ra
      have ed : d = d := rfl
      have o := ow _ fo.1
      obtain ⟨u1, u2, rfl, r1, r2⟩ := vals2 r
      cases (show u1 = Value.ref b from r1)
      cases (show u2 = Value.ref _ from r2)
      obtain ⟨us, od, _, _, J⟩ := L2.slAt_get I q
      have e := T.own _ fo.1
      have c1 := o.cls.ic
      have c2 : PySem.W.plainGet Γ.K (Γ.ca d) "__class__" = true := o.cls.pg
      have c3 := o.fc
      have c4 := o.sp
      have c5 := o.tk
      have c6 := o.mro
      rw [← C.K] at e c1 c2 c3 c4 c5 c6
      exact PySem.W.kia_one (OwX.kitx_slt c1 c2 c3 c4 c5 c6) I.kIn J e (fun z => nomatch z) fun tk => ⟨.bl _, H, I.tok _, rfl, kk m H _ (Grow.refl _ _) rh rfl⟩
    | non => exact plain _ ek (by simp) kk
    | bl => exact plain _ ek (by simp) kk
    | int => exact plain _ ek (by simp) kk
    | str => exact plain _ ek (by simp) kk
    | tup => exact plain _ ek (by simp) kk
    | lst => exact plain _ ek (by simp) kk
    | dct => exact plain _ ek (by simp) kk
theorem s_isown (C : Cn X Γ W) (ow : ∀ c, Γ.cok c = true → OwnOk Γ c) (T : KlIs Γ c) (hg : Gl X "isinstance") (hm : Γ.mg "isinstance" = none) (hg2 : Gl X x) (hm2 : Γ.mg x = some (.ref (Γ.ca c))) (hdb : (x == ("__debug__" : Str)) = false) (ha : PE X e (tE Γ W ea)) (hst : isStar e = false) :
    PE X (.Call (.Name "isinstance" p) [e, .Name x p2] [] pos) (tE Γ W fun env h => bnd (ea env h) (isownR c)) := by
  rw [← C.mg] at hm hm2
  have ht : PE X (.Name x p2) (tC (.ref (Γ.ca c))) := pe_glob hg2 hm2 rfl hdb
  refine ⟨fun pins s σ H Q I hq => ?_⟩
  refine (pe_callB (cb_io (σ0 := σ) C ow T) hg hm PyProof.Rows.boot_isinstance (pa_cons ha (pa_cons ht pa_nil rfl) (star_cons hst)) (by decide) (by decide) (star_cons hst) rfl).run pins s σ H Q I ?_
  obtain ⟨L, m, h, env, rh, re, kk⟩ := hq
  exact ⟨L, m, h, env, rh, re, kk.bind fun m1 H1 y h1 u g1 rh1 ry k1 => ⟨u, L, m1, h1, y, rfl, rh1, ry, k1⟩⟩
end
end Mi
set_option Elab.async false
set_option linter.all false
set_option maxRecDepth 100000
set_option maxHeartbeats 4000000
namespace NeX
open PySem PySem.Spec PyProof.Rows
section
variable {prog : Program} {w : World} {A : Around} {E : Value → Shared → Prop} {s : Shared} {K : PySem.W.Frag} {x C f : Addr} {ox : Obj} {od : Option Obj} {b tb : Value}
theorem body_ne {Q : Fin → Shared → Prop} (X : K.In s.heap) (I : PySem.W.InstAt s.heap x ox C od) (he : PySem.W.findIn K (.ref C) "__eq__" = some (some (.ref f))) (hf : PySem.W.isFn K (.ref f) = true) (hu : A.units < cLine)
    (h : wpAny (model prog w) A (call (.ref f) [.ref x, b]) (fun v s' => ∃ r, v = .bool r ∧ Q (.done (.ret (.bool (!r)))) s') E s) : wpAny (model prog w) A (Builtin.«object.__ne__» ⟨[.ref x, b], []⟩) Q E s := by
  unfold Builtin.«object.__ne__»
  repeat (first
    | with_reducible refine wpAny_cRoomFor hu ?_
    | (refine wpAny_bind (m := callSpecialIfBound? (.ref x) (Str.ofString "__eq__") [b]) (PySem.W.ifBound_K X I he hf (wpAny_mono h (fun r s' hr => by
          obtain ⟨r', rfl, hq⟩ := hr
          repeat (first | exact hq | exact wpAny_pure hq | exact wpAny_truthy_bool hq | (refine wpAny_bind (m := truthy (.bool _)) (wpAny_truthy_bool ?_)) | wp_step)) fun _ _ e => e)))
    | wp_step)
theorem bound_ne {Q : Option Value → Shared → Prop} (X : K.In s.heap) (I : PySem.W.InstAt s.heap x ox C od) (hn : PySem.W.findIn K (.ref C) "__ne__" = some (some (.builtin "object.__ne__"))) (hm : PySem.W.mroIn K C (.type "object") = some true)
    (he : PySem.W.findIn K (.ref C) "__eq__" = some (some (.ref f))) (hf : PySem.W.isFn K (.ref f) = true) (hu : A.units + 1 < cLine)
    (h : wpAny (model prog w) A.in1 (call (.ref f) [.ref x, b]) (fun v s' => ∃ r, v = .bool r ∧ Q (some (.bool (!r))) s') E s) : wpAny (model prog w) A (callSpecialIfBound? (.ref x) "__ne__" [b]) Q E s := by
  have hi : PySem.W.Looks (model prog w) s.heap (isInstance (.ref x) (.type "object")) true := I.type.andThen (PySem.W.looks_mroIn X hm)
  simp only [callSpecialIfBound?, bindSpecialIfBound?]
  refine wpAny_holding (wpAny_bind (wpAny_bind (wpAny_bind (I.type.here ((PySem.W.looks_findIn X hn).here ?_)))))
  refine wpAny_bind (wpAny_askSetting (wpAny_ite ?_))
  have fin : wpAny (model prog w) A (call (.builtin "object.__ne__") ([.ref x] ++ [b]) >>= fun v => pure (some v)) Q E s := by
    refine wpAny_bind (wpAny_call (codeAny_call_builtin PySem.F.cmp_object.ne.plain F.cmpEntry_ne (PySem.W.check_slot F.cmpKind_ne F.cmpSplit_ne hi (F.cmpArgs_ne _ _) (body_ne X I he hf hu (wpAny_mono h (fun v s' hv => ?_) fun _ _ e => e)))))
    obtain ⟨r, rfl, hq⟩ := hv
    first | exact ⟨r, rfl, wpAny_pure hq⟩ | exact ⟨r, rfl, hq⟩
  split
  · rw [PySem.F.cmp_object.ne.bind]
    exact wpAny_bind (wpAny_pure (wpAny_pure fin))
  · rw [PySem.F.cmp_object.ne.bind]
    exact wpAny_tryCatch (wpAny_bind (wpAny_pure (wpAny_pure fin)))
theorem ne_K {Q : Value → Shared → Prop} (hu : A.units + 1 < cLine) (X : K.In s.heap) (I : PySem.W.InstAt s.heap x ox C od) (hb : PySem.W.Looks (model prog w) s.heap (typeOf b) tb) (hf1 : PySem.W.notFirst K C tb = true)
    (hn : PySem.W.findIn K (.ref C) "__ne__" = some (some (.builtin "object.__ne__"))) (hm : PySem.W.mroIn K C (.type "object") = some true) (he : PySem.W.findIn K (.ref C) "__eq__" = some (some (.ref f))) (hf : PySem.W.isFn K (.ref f) = true)
    (h : wpAny (model prog w) A.in1 (call (.ref f) [.ref x, b]) (fun v s' => ∃ r, v = .bool r ∧ Q (.bool (!r)) s') E s) : wpAny (model prog w) A (richCompare .NotEq (.ref x) b) Q E s := by
  have one : wpAny (model prog w) A (tryCompare (.ref x) "__ne__" b) (fun r s' => ∃ v, r = some v ∧ Q v s') E s := by
    unfold tryCompare
    refine wpAny_bind (bound_ne X I hn hm he hf hu (wpAny_mono h (fun v s' hv => ?_) fun _ _ e => e))
    obtain ⟨r, rfl, hq⟩ := hv
    exact ⟨r, rfl, wpAny_pure ⟨_, rfl, hq⟩⟩
  unfold richCompare
  simp only [oneThing_ref]
  refine wpAny_holding (wpAny_bind (wpAny_cRoomFor (Nat.lt_of_succ_lt hu) ?_))
  rw [cmpInfo_NotEq]
  dsimp only
  refine wpAny_bind (I.type.here (wpAny_bind (hb.here ?_)))
  split
  · rename_i q
    have e : PySem.W.subIn K tb (.ref C) = some false := by
      rcases Bool.or_eq_true_iff.mp hf1 with e | e
      · rw [beq_iff_eq.mp e] at q
        simp at q
      · exact beq_iff_eq.mp e
    refine wpAny_bind ((PySem.W.looks_subIn X e).here ?_)
    simp only [Bool.false_eq_true, if_false]
    refine wpAny_bind (wpAny_mono one (fun r s' z => ?_) fun _ _ e => e)
    obtain ⟨v, rfl, hq⟩ := z
    exact wpAny_pure hq
  · refine wpAny_bind (wpAny_pure ?_)
    simp only [Bool.false_eq_true, if_false]
    refine wpAny_bind (wpAny_mono one (fun r s' z => ?_) fun _ _ e => e)
    obtain ⟨v, rfl, hq⟩ := z
    exact wpAny_pure hq
end
end NeX
namespace Mi
open PySem PySem.Spec PyProof.Rows L2
structure KlEq (Γ : Gm) (G : GT) (c : Nat) : Prop where
  eq : ∀ g, G.eqf c = some g → PySem.W.findIn Γ.K (.ref (Γ.ca c)) "__eq__" = some (some (.ref (Γ.fa g))) ∧ PySem.W.isFn Γ.K (.ref (Γ.fa g)) = true
  ne : PySem.W.findIn Γ.K (.ref (Γ.ca c)) "__ne__" = some (some (.builtin "object.__ne__"))
  base : ∀ T ∈ ["NoneType", "int", "bool", "str", "tuple", "list", "dict"], PySem.W.notFirst Γ.K (Γ.ca c) (.type T) = true
  own : ∀ d, Γ.cok d = true → PySem.W.notFirst Γ.K (Γ.ca c) (.ref (Γ.ca d)) = true
section
variable {X : Cx} {Γ : Gm} {W : WX} {G : GT} {cf : CF} {k : Nat} {a b : Expr} {pos : Pos} {ea eb : Env → Hh → R Vl}
def ocO (neg : Bool) : CmpOp := match neg with
  | true => .NotEq
  | false => .Eq
def rOc (Γ : Gm) (G : GT) (cf : CF) (neg : Bool) : R2 := fun x y H Q => ∃ L m h u v W σ, RepH Γ L m h H ∧ RepV Γ L m H u x ∧ RepV Γ L m H v y ∧ okG Γ W L m H σ (fun m' H' => RepV Γ L m' H') (ocmpR G cf neg u v h) Q
theorem op_oc (C : Cn X Γ W) (T : ∀ c, Γ.cok c = true → KlEq Γ G c) (ow : ∀ c, Γ.cok c = true → OwnOk Γ c) (F : ∀ g, FnI Γ cf (k - 1) g) (hr : Room k X.A) (hk : 1 ≤ k ∨ ∀ f xs h, cf f xs h = .bad) (neg : Bool) : OpR X (compareOp (ocO neg)) (rOc Γ G cf neg) := by
  intro pins s σ H x y v u Q I rx ry hq
  obtain ⟨L, m, h, p, q, W', σ', rh, rp, rq, kk⟩ := hq
  unfold ocmpR at kk
  split at kk
  rotate_left
  · exact kk.elim
  rename_i c xs
  split at kk
  rotate_left
  · exact kk.elim
  rename_i g hg
  split at kk
  rotate_left
  · exact kk.elim
  rename_i kd ek
  have hk : 1 ≤ k := by
    rcases hk with hk | hk
    · exact hk
    · rw [hk] at kk
      exact kk.elim
  have rp0 := rp
  obtain ⟨ad, dx, vs, us, rfl, hs, _, _, _, _, fo, _⟩ := rp
  have T := T c fo.1
  obtain ⟨t1, t2⟩ := T.eq g hg
  have t3 := T.ne
  have t4 := (ow c fo.1).mro
  cases (show v = Value.ref ad from rx)
  obtain ⟨_, od, _, _, J⟩ := L2.slAt_get I hs
  -- the other one's type
  have base : ∀ kd, kdOf h q = some kd → (∀ c', kd ≠ .own c') → ∃ tb, PySem.W.Looks (model X.prog X.w) s.heap (typeOf u) tb ∧ PySem.W.notFirst Γ.K (Γ.ca c) tb = true := fun kd ek hkk => by
    have tx := ty_kd rh rq ek hkk
    rw [← C.K] at tx
    obtain ⟨P, Z, pz, _⟩ := kit_of I ry tx
    exact ⟨_, Z.ty _ _ I.kIn pz, T.base _ (kd_base hkk)⟩
  have ty : ∃ tb, PySem.W.Looks (model X.prog X.w) s.heap (typeOf u) tb ∧ PySem.W.notFirst X.K (Γ.ca c) tb = true := by
    rw [C.K]
    cases kd with
    | own d =>
      obtain ⟨ys, rfl⟩ := kd_ins ek
      obtain ⟨bd, dy, ws, us', rfl, hs', _, _, _, _, fo', _⟩ := rq
      cases (show u = Value.ref bd from ry)
      obtain ⟨_, od', _, _, J'⟩ := L2.slAt_get I hs'
      exact ⟨_, J'.type, T.own d fo'.1⟩
    | non => exact base _ ek (by simp)
    | bl => exact base _ ek (by simp)
    | int => exact base _ ek (by simp)
    | str => exact base _ ek (by simp)
    | tup => exact base _ ek (by simp)
    | lst => exact base _ ek (by simp)
    | dct => exact base _ ek (by simp)
  obtain ⟨tb, hb, hnf⟩ := ty
  have hr1 : Room (k - 1) X.A.in1 := by
    have : Room (k - 1 + 1) X.A := hr.mono (by omega)
    exact this.in1
  obtain ⟨fd, ps, F', hbd⟩ := (F g).ok
  rw [← C.prog, ← C.w, ← C.K, ← C.mg, ← C.base] at F'
  rw [← C.K] at hbd t1 t2 t3 t4
  have FR := FnOk.raw F' hbd .nil
  have go : ∀ A', Room (k - 1) A' → Env0 X.prog X.w X.K X.mg X.base A' X.stack s H → wpAny (model X.prog X.w) A' (call (.ref (Γ.fa g)) [.ref ad, u]) (fun v s' => ∃ r, v = .bool r ∧ EP X pins σ Q (.bool (r != neg)) s') X.xe s := fun A' hrA e0 => by
    refine wpAny_call (codeAny_mono (FR A' X.stack s H [.ref ad, u] [.ref ad, y] (fun v H' => ∃ r, v = .bl r ∧ Q (.bl (r != neg)) H') (fun _ _ _ => False) hrA e0 (.cons rfl (.cons ry .nil)) ⟨L, m, h, [.ins c xs, q], rh, ⟨rp0, rq, trivial⟩, ?_⟩) fun o s2 z => ?_)
    · cases hcf : cf g [.ins c xs, q] h with
      | bad => rw [hcf] at kk; exact kk.elim
      | exc c' p' h' => rw [hcf] at kk; exact kk.elim
      | ok v h1 =>
        rw [hcf] at kk
        intro m' H' u' g' rh' ru
        cases v with
        | bl r => exact ⟨r, ru, kk m' H' _ g' rh' rfl⟩
        | _ => exact kk.elim
    · cases o with
      | error e =>
        obtain ⟨_, _, _, _, _, _, _, _, _, _, _, _, z⟩ := z
        exact z.elim
      | ok fl =>
        cases fl with
        | ret u2 =>
          obtain ⟨v2, H2, I2, r2, r, ev, q2⟩ := I.after z
          subst ev
          have e2 : u2 = Value.bool r := r2
          exact ⟨r, e2, .bl (r != neg), H2, I2, rfl, q2⟩
        | next => exact z.elim
        | brk => exact z.elim
        | cont => exact z.elim
  obtain ⟨mm, hF⟩ := I.fr
  cases neg with
  | false =>
    show wpAny _ _ (richCompare .Eq (.ref ad) u) _ _ _
    refine PySem.W.cmp_K (op := .Eq) (tb := tb) hr.units0 hF I.ok.mod.kin J hb hnf t1 t2 (wpAny_mono (go X.A (hr.mono (Nat.sub_le _ _)) I.env0) (fun v s2 z => ?_) fun _ _ e => e)
    obtain ⟨r, rfl, z⟩ := z
    rw [Bool.bne_false] at z
    exact z
  | true =>
    show wpAny _ _ (richCompare .NotEq (.ref ad) u) _ _ _
    refine NeX.ne_K C.u1 I.kIn J hb hnf t3 t4 t1 t2 (wpAny_mono (go X.A.in1 hr1 I.env0.in1) (fun v s2 z => ?_) fun _ _ e => e)
    obtain ⟨r, rfl, z⟩ := z
    rw [Bool.bne_true] at z
    exact ⟨r, rfl, z⟩
theorem s_ocmp (C : Cn X Γ W) (T : ∀ c, Γ.cok c = true → KlEq Γ G c) (ow : ∀ c, Γ.cok c = true → OwnOk Γ c) (F : ∀ g, FnI Γ cf (k - 1) g) (hr : Room k X.A) (hk : 1 ≤ k ∨ ∀ f xs h, cf f xs h = .bad) (neg : Bool) (ha : PE X a (tE Γ W ea)) (hb : PE X b (tE Γ W eb)) (hm : behindInMarks (ocO neg) b = false) :
    PE X (.Compare a [ocO neg] [b] pos) (tE Γ W fun env h => bnd (ea env h) fun x h => bnd (eb env h) fun y h => ocmpR G cf neg x y h) := by
  refine pe_imp (pe_cmpR (op_oc C T ow F hr hk neg) ha hb hm) fun σ H Q hq => ?_
  obtain ⟨L, m, h, env, rh, re, kk⟩ := hq
  exact ⟨L, m, h, env, rh, re, kk.bind fun m1 H1 x h1 u g1 rh1 rx k1 => ⟨L, m1, h1, env, rh1, re.grow g1, k1.bind fun m2 H2 y h2 v g2 rh2 ry k2 => ⟨L, m2, h2, x, y, W, σ, rh2, rx.grow g2, ry, k2⟩⟩⟩
theorem ocmpR_ok {neg : Bool} {x y : Vl} {h : Hh} : ∀ v h1, ocmpR G cf neg x y h = .ok v h1 → ∃ r, v = .bl r := by
  intro v h1 e
  unfold ocmpR at e
  split at e
  · split at e
    · split at e
      · cases hc : noX (cf _ [_, _] h) with
        | bad => rw [hc] at e; cases e
        | exc c p h2 => rw [hc] at e; cases e
        | ok w h2 =>
          rw [hc] at e
          cases w with
          | bl r =>
            cases e
            exact ⟨_, rfl⟩
          | _ => cases e
      · cases e
    · cases e
  · cases e
theorem t_ocmp (C : Cn X Γ W) (T : ∀ c, Γ.cok c = true → KlEq Γ G c) (ow : ∀ c, Γ.cok c = true → OwnOk Γ c) (F : ∀ g, FnI Γ cf (k - 1) g) (hr : Room k X.A) (hk : 1 ≤ k ∨ ∀ f xs h, cf f xs h = .bad) (neg : Bool) (ha : PE X a (tE Γ W ea)) (hb : PE X b (tE Γ W eb)) (hm : behindInMarks (ocO neg) b = false) :
    PT X (.Compare a [ocO neg] [b] pos) (tB' Γ W (tru fun env h => bnd (ea env h) fun x h => bnd (eb env h) fun y h => ocmpR G cf neg x y h)) := by
  refine pt_imp (pt_cmpR (op_oc C T ow F hr hk neg) ha hb hm) fun σ H Q hq => ?_
  obtain ⟨L, m, h, env, rh, re, kk⟩ := hq
  unfold tru at kk
  rw [bnd_bnd] at kk
  refine ⟨L, m, h, env, rh, re, kk.bind fun m1 H1 x h1 u g1 rh1 rx k1 => ?_⟩
  rw [bnd_bnd] at k1
  refine ⟨L, m1, h1, env, rh1, re.grow g1, k1.bind fun m2 H2 y h2 v g2 rh2 ry k2 => ⟨L, m2, h2, x, y, W, σ, rh2, rx.grow g2, ry, ?_⟩⟩
  cases hc : ocmpR G cf neg x y h2 with
  | bad => rw [hc] at k2; exact k2
  | exc c p h3 => rw [hc] at k2; exact k2
  | ok w h3 =>
    rw [hc] at k2
    obtain ⟨r, rfl⟩ := ocmpR_ok _ _ hc
    intro m' H' u' g' rh' ru
    cases (show u' = .bl r from ru)
    exact ⟨r, rfl, k2 m' H' r g' rh' rfl⟩
end
end Mi
set_option Elab.async false
set_option linter.all false
set_option maxRecDepth 100000
set_option maxHeartbeats 4000000
namespace Mi
open PySem PySem.Spec PyProof.Rows L2
section
variable {Γ : Gm} {L m t : List Addr} {H : Hp}
theorem mapO_rep {f : Vl → Option Vl} (hf : ∀ x y u, f x = some y → RepV Γ L (m ++ t) H x u → RepV Γ L m H y u) : ∀ {xs ys : List Vl} {us : List V}, mapO f xs = some ys → RepL Γ L (m ++ t) H xs us → RepL Γ L m H ys us
  | [], ys, [], e, _ => by cases Option.some.inj e; exact trivial
  | [], _, _ :: _, _, r => r.elim
  | _ :: _, _, [], _, r => r.elim
  | x :: xs, ys, u :: us, e, r => by
    unfold mapO at e
    split at e
    · rename_i y hy
      split at e
      · rename_i l hl
        cases Option.some.inj e
        exact ⟨hf _ _ _ hy r.1, mapO_rep hf hl r.2⟩
      · cases e
    · cases e
theorem frV_rep {h : Hh} (rh : RepH Γ L (m ++ t) h H) : ∀ (k : Nat) (v y : Vl) (u : V), frV h m.length k v = some y → RepV Γ L (m ++ t) H v u → RepV Γ L m H y u
  | 0, v, y, u, e, _ => by cases e
  | k + 1, v, y, u, e, r => by
    have ih := frV_rep rh k
    unfold frV at e
    split at e
    · split at e
      · rename_i l hl
        cases Option.some.inj e
        obtain ⟨a, us, e, q, r⟩ := r
        exact ⟨a, us, e, q, mapO_rep (fun x y u => ih x y u) hl r⟩
      · cases e
    · split at e
      · rename_i l hl
        cases Option.some.inj e
        obtain ⟨a, us, e, q, n, n2, r⟩ := r
        exact ⟨a, us, e, q, not_mem_left n, n2, mapO_rep (fun x y u => ih x y u) hl r⟩
      · cases e
    · split at e
      · rename_i l hl
        cases Option.some.inj e
        obtain ⟨a, dx, vs, us, e, q, n1, n2, n3, n4, f, r⟩ := r
        exact ⟨a, dx, vs, us, e, q, not_mem_left n1, n2, not_mem_left n3, n4, f, mapO_rep (fun x y u => ih x y u) hl r⟩
      · cases e
    · rename_i n
      obtain ⟨a, ea, q⟩ := r
      split at e
      · rename_i hn
        cases Option.some.inj e
        rw [List.getElem?_append_left hn] at q
        exact ⟨a, ea, q⟩
      · rename_i hn
        split at e
        · rename_i xs hx
          split at e
          · rename_i l hl
            cases Option.some.inj e
            obtain ⟨us, e2, rr⟩ := rh.at_ q hx
            refine ⟨a, us, ea, e2, fun z => ?_, rh.ap a (List.mem_of_getElem? q), mapO_rep (fun x y u => ih x y u) hl rr⟩
            rw [List.getElem?_append_right (by omega)] at q
            exact (List.nodup_append.mp rh.nd).2.2 a z a (List.mem_of_getElem? q) rfl
          · cases e
        · cases e
    · cases e
    · split at e
      · cases Option.some.inj e
        obtain ⟨z, a, ea, q, n, n2⟩ := r
        exact ⟨z, a, ea, q, not_mem_left n, n2⟩
      · cases e
    · cases e
    · cases Option.some.inj e
      cases v with
      | non => exact r
      | bl b => exact r
      | int i => exact r
      | str s => exact r
      | fn g => exact r
      | tup xs => rename_i h1 _ _ _ _ _ _; exact absurd rfl (h1 xs)
      | lst xs => rename_i _ h1 _ _ _ _ _; exact absurd rfl (h1 xs)
      | ins c xs => rename_i _ _ h1 _ _ _ _; exact absurd rfl (h1 c xs)
      | ref n => rename_i _ _ _ h1 _ _ _; exact absurd rfl (h1 n)
      | scr xs => rename_i _ _ _ _ h1 _ _; exact absurd rfl (h1 xs)
      | dct xs => rename_i h1 _; exact absurd rfl (h1 xs)
      | clo k => exact r.elim
theorem fin_ok {W : WX} {σ : L2.St} {frz : Bool} {n0 : Nat} {v : Vl} {h h' : Hh} {Q : VK} (rh0 : RepH Γ L m h H) (hn : n0 = h.length) (k : okG Γ W L m H σ (fun m' H' => RepV Γ L m' H') (fin frz n0 v h') Q) :
    ∀ m' H' u, Grow m H m' H' → RepH Γ L m' h' H' → RepV Γ L m' H' v u → Q u H' := by
  intro m' H' u g rh rv
  unfold fin at k
  split at k
  · exact k m' H' u g rh rv
  · split at k
    · exact k m' H' u g rh rv
    · split at k
      · rename_i y hy
        split at k
        · split at k
          · rename_i hw
            obtain ⟨t, rfl, _⟩ := g.ext
            have e : n0 = m.length := by rw [hn, rh0.len]
            subst e
            exact k m H' u ⟨⟨[], by simp, fun _ z => nomatch z⟩, g.keep, g.tup, g.frz, g.own, g.tbl⟩ (rh.shrink hw) (frV_rep rh _ _ _ _ hy rv)
          · exact k.elim
        · exact k.elim
      · exact k.elim
theorem finX_ok {W : WX} {σ : L2.St} {n0 : Nat} {c : Nat} {p : Option Vl} {h h' : Hh} {Q : VK} (rh0 : RepH Γ L m h H) (hn : n0 = h.length) (k : okG Γ W L m H σ (fun m' H' => RepV Γ L m' H') (finX n0 c p h') Q) :
    ∀ m' H' d, Grow m H m' H' → RepH Γ L m' h' H' → RepX Γ L m' H' c p d → W (.ref (Γ.xa c)) d σ H' := by
  intro m' H' d g rh rx
  unfold finX at k
  split at k
  · exact k m' H' d g rh rx
  · have e : n0 = m.length := by rw [hn, rh0.len]
    subst e
    obtain ⟨t, rfl, _⟩ := g.ext
    have g' : Grow m H m H' := ⟨⟨[], by simp, fun _ z => nomatch z⟩, g.keep, g.tup, g.frz, g.own, g.tbl⟩
    split at k
    · split at k
      · rename_i hw
        exact k m H' d g' (rh.shrink hw) trivial
      · exact k.elim
    · split at k
      · rename_i y hy
        split at k
        · split at k
          · rename_i hw
            obtain ⟨a, u, e1, e2, e3⟩ := rx
            exact k m H' d g' (rh.shrink hw) ⟨a, u, e1, e2, frV_rep rh _ _ _ _ hy e3⟩
          · exact k.elim
        · exact k.elim
      · exact k.elim
end
end Mi
set_option Elab.async false
set_option linter.all false
set_option maxRecDepth 100000
set_option maxHeartbeats 4000000
namespace Mi
open PySem PySem.Spec PyProof.Rows L2
structure Sc where
  N : List Str
  sc : Scope
  fn : Option Scope
  gd : Bool := false
  lm : Bool := false
abbrev Sc.top (N : List Str) (sc : Scope) : Sc := { N := N, sc := sc, fn := none }
abbrev Sc.top2 (N : List Str) (sc : Scope) : Sc := { N := N, sc := sc, fn := none, gd := true, lm := true }
structure Nm where
  fns : List (Str × Nat)
  gvs : List (Str × Nat)
  ats : List (Str × Nat) := []
  cls : List (Str × Nat) := []
  exs : List (Str × Nat × Option Str) := []
  fng : List (Str × Nat) := []
def Sc.fnB (S : Sc) (x : Str) : Bool := match S.fn with
  | none => true
  | some s => s.names.lookup x == some .cell
def Sc.blk (S : Sc) (scope : Scope) : Sc := { N := S.N, sc := relS scope S.sc, fn := some scope, gd := S.gd }
def Sc.lam (S : Sc) (scope : Scope) : Sc := { N := S.N, sc := scope, fn := some scope }
def noPar (p : Arguments) : Bool := p.posonlyargs.isEmpty && p.args.isEmpty && p.vararg.isNone && p.kwonlyargs.isEmpty && p.kw_defaults.isEmpty && p.kwarg.isNone && p.defaults.isEmpty
def visB (S : Sc) (x : Str) : Bool := match S.sc.names.lookup x with
  | some .local => true
  | some .cell => true
  | some .free => true
  | _ => false
def locB (S : Sc) (x : Str) : Bool := match S.sc.names.lookup x with
  | some .local => true
  | some .cell => S.fnB x
  | _ => false
def glB (S : Sc) (x : Str) : Bool := match S.sc.names.lookup x with
  | some .globalImplicit => true
  | _ => false
def plB (S : Sc) (x : Str) : Bool := match S.sc.names.lookup x with
  | some .local => true
  | _ => false
def okNm (x : Str) : Bool := !(x == ("__debug__" : Str)) && !(x == ("__classdict__" : Str))
def slB (S : Sc) (i : Nat) (x : Str) : Bool := decide (S.N[i]? = some x)
def opB (o : BO) (p : Operator) : Bool := match o, p with
  | .add, .Add => true | .sub, .Sub => true | .mul, .Mult => true | .fdiv, .FloorDiv => true | .mod, .Mod => true | .pow, .Pow => true
  | .shl, .LShift => true | .shr, .RShift => true | .and, .BitAnd => true | .or, .BitOr => true | .xor, .BitXor => true
  | _, _ => false
def cpB (o : CO) (p : CmpOp) : Bool := match o, p with
  | .eq, .Eq => true | .ne, .NotEq => true | .lt, .Lt => true | .le, .LtE => true | .gt, .Gt => true | .ge, .GtE => true
  | .is, .Is => true | .isnot, .IsNot => true | .isin, .In => true | .notin, .NotIn => true
  | _, _ => false
theorem opB_eq {o : BO} {p : Operator} (h : opB o p = true) : p = bo o := by cases o <;> cases p <;> first | rfl | (cases h)
theorem cpB_eq {o : CO} {p : CmpOp} (h : cpB o p = true) : p = co o := by cases o <;> cases p <;> first | rfl | (cases h)
def tgN (S : Sc) (i : Nat) (t : Expr) : Bool := match t with
  | .Name x _ => slB S i x && locB S x
  | _ => false
def chkTs (S : Sc) : List Nat → List Expr → Bool
  | [], [] => true
  | i :: is, t :: ts => tgN S i t && chkTs S is ts
  | _, _ => false
def chkT (S : Sc) (tg : Tg) (e : Expr) : Bool := match tg with
  | .n i => tgN S i e
  | .t is => match e with
    | .Tuple ts _ _ => chkTs S is ts
    | _ => false
def noSet : Expr → Bool
  | .Set _ _ _ => false
  | _ => true
theorem noSet_fold {e : Expr} {env : PySem.Env} (h : noSet e = true) : ∀ x, foldedSetIterable e env x = pure x := by
  intro x
  cases e <;> first | rfl | (cases h)
def plainT : Expr → Bool
  | .UnaryOp .Not _ _ => false
  | .BoolOp _ _ _ => false
  | .IfExp _ _ _ _ => false
  | .Compare _ _ _ _ => false
  | _ => true
theorem plainT_is {e : Expr} {env : PySem.Env} (h : plainT e = true) : ∀ whole, isTrue e env whole = (do let v ← whole; standAt e.pos; holding [v] (truthy v)) := by
  intro w
  cases e <;> first | rfl | (cases h; done) | skip
  rename_i op a pos
  cases op <;> first | rfl | (cases h)
theorem plainIx_of {b : Expr} (h : isSlice b = false) : PlainIx b := by
  intro o i
  cases b <;> first | rfl | (cases h)
def ownP (S : Sc) (own : List Nat) : List (Str × Nat) := own.filterMap fun i => match S.N[i]? with
  | some x => some (x, i)
  | none => none
def tgIn (tg : Tg) (own : List Nat) : Bool := (slots tg).all fun i => own.contains i
mutual
def chkE (D : Nm) (S : Sc) : Ex → Expr → Bool
  | .var i => fun e => match e with
    | .Name x _ => slB S i x && visB S x && okNm x
    | _ => false
  | .int i => fun e => match e with
    | .Constant (.int j) _ _ => decide (i = j)
    | _ => false
  | .bl i => fun e => match e with
    | .Constant (.bool j) _ _ => decide (i = j)
    | _ => false
  | .non => fun e => match e with
    | .Constant .none _ _ => true
    | _ => false
  | .str s => fun e => match e with
    | .Constant (.str x) _ _ => decide (x = ⟨s.toArray⟩)
    | _ => false
  | .gl g => fun e => match e with
    | .Name x _ => glB S x && decide (D.gvs.lookup x = some g) && okNm x
    | _ => false
  | .bin o a b => fun e => match e with
    | .BinOp a' p b' _ => opB o p && chkE D S a a' && chkE D S b b'
    | _ => false
  | .neg a => fun e => match e with
    | .UnaryOp .USub a' _ => chkE D S a a'
    | _ => false
  | .cmp o a b => fun e => match e with
    | .Compare a' [p] [b'] _ => cpB o p && chkE D S a a' && chkE D S b b' && !behindInMarks (co o) b'
    | _ => false
  | .chain o p a b c => fun e => match e with
    | .Compare a' [o', p'] [b', c'] _ => cpB o o' && cpB p p' && chkE D S a a' && chkE D S b b' && chkE D S c c' && !lastMarks [co o, co p] [b', c']
    | _ => false
  | .and a b => fun e => match e with
    | .BoolOp .And [a', b'] _ => chkE D S a a' && chkE D S b b'
    | .BoolOp .And (a' :: b' :: c' :: r) pos => chkE D S a a' && chkE D S b (.BoolOp .And (b' :: c' :: r) pos)
    | _ => false
  | .or a b => fun e => match e with
    | .BoolOp .Or [a', b'] _ => chkE D S a a' && chkE D S b b'
    | .BoolOp .Or (a' :: b' :: c' :: r) pos => chkE D S a a' && chkE D S b (.BoolOp .Or (b' :: c' :: r) pos)
    | _ => false
  | .not a => fun e => match e with
    | .UnaryOp .Not a' _ => chkE D S a a'
    | _ => false
  | .ite c a b => fun e => match e with
    | .IfExp c' a' b' _ => chkE D S c c' && chkE D S a a' && chkE D S b b'
    | _ => false
  | .tup as => fun e => match e with
    | .Tuple es _ _ => chkA D S as es
    | _ => false
  | .fz f => fun e => chkF D S f e && plainT e
  | .th f => fun e => chkF D S f e && plainT e
  | .sub a i => fun e => match e with
    | .Subscript a' i' _ => chkE D S a a' && chkE D S i i' && !isSlice i'
    | _ => false
  | .slc a lo hi => fun e => match e with
    | .Subscript a' (.Slice lo' hi' none _) _ => chkE D S a a' && chkO D S lo lo' && chkO D S hi hi'
    | _ => false
  | .call f as => fun e => match e with
    | .Call (.Name x _) es [] _ => glB S x && decide (D.fns.lookup x = some f) && okNm x && noStars es && chkA D S as es
    | _ => false
  | .callv i as => fun e => match e with
    | .Call (.Name x _) (a :: es) [] _ => slB S i x && visB S x && okNm x && noStars (a :: es) && chkA D S as (a :: es)
    | _ => false
  | .mk c as => fun e => match e with
    | .Call (.Name x _) (a :: es) [] _ => glB S x && decide (D.cls.lookup x = some c) && okNm x && noStars (a :: es) && chkA D S as (a :: es)
    | _ => false
  | .isown c a => fun e => match e with
    | .Call (.Name x _) [a', .Name t _] [] _ => decide (x = Str.ofString "isinstance") && glB S x && glB S t && okNm t && decide (D.cls.lookup t = some c) && !isStar a' && chkE D S a a'
    | _ => false
  | .bif b as => fun e => match e with
    | .Call (.Name x _) (a :: es) [] _ => (decide (x = Str.ofString (bifNm b)) && decide (bifNm b ≠ "") && glB S x && noStars (a :: es) && chkA D S as (a :: es)) ||
        (match es with
        | [.Name t _] => decide (x = Str.ofString "isinstance") && decide (t = Str.ofString (isNm b)) && decide (isNm b ≠ "") && glB S x && glB S t && !isStar a && chkA D S as [a]
        | _ => false)
    | _ => false
  | .mth t o as => fun e => match e with
    | .Call (.Attribute o' x apos) es [] pos => decide (x = Str.ofString (mthNm t)) && chkE D S o o' && plainBase o' && (apos.endLine == pos.line) && (match t, es with
      | .append, [a] => !isStar a && chkA D S as [a]
      | .extend, [a] => !isStar a && chkA D S as [a]
      | .pop1, [a] => !isStar a && chkA D S as [a]
      | .pop0, [] => chkA D S as []
      | .bitlen, [] => chkA D S as []
      | _, _ => false)
    | _ => false
  | .rev a => fun e => match e with
    | .Subscript a' (.Slice none none (some (.UnaryOp .USub (.Constant (.int 1) _ _) _)) _) _ => chkE D S a a'
    | _ => false
  | .dnew => fun e => match e with
    | .Dict [] [] _ => true
    | _ => false
  | .dz => fun e => match e with
    | .Dict [] [] _ => true
    | _ => false
  | .rpr a => fun e => match e with
    | .Call (.Name x _) [a'] [] _ => S.gd && decide (x = Str.ofString "repr") && glB S x && !isStar a' && chkE D S a a'
    | _ => false
  | .lamc f b => fun e => match e with
    | .Call (.Name x _) [.Lambda pr bd sc _] [] _ => S.lm && glB S x && okNm x && decide (D.fns.lookup x = some f) && noPar pr && LamX.lamSB S.sc sc && chkE D (S.lam sc) b bd
    | _ => false
  | .callg f as => fun e => match e with
    | .Call (.Name x _) es [] _ => S.gd && glB S x && decide (D.fng.lookup x = some f) && okNm x && noStars es && chkA D S as es
    | _ => false
  | .trg as => fun e => match e with
    | .Call (.Name x _) [.Call (.Name y _) [a] [] _] [] _ => decide (x = Str.ofString "tuple") && decide (y = Str.ofString "range") && glB S x && glB S y && !isStar a && chkA D S as [a]
    | _ => false
  | .ocmp neg a b => fun e => match e with
    | .Compare a' [p] [b'] _ => cpB (match neg with | true => .ne | false => .eq) p && chkE D S a a' && chkE D S b b' && !behindInMarks (ocO neg) b'
    | _ => false
  | .attr o f => fun e => match e with
    | .Attribute o' x _ => decide (D.ats.lookup x = some f) && chkE D S o o' && plainBase o'
    | _ => false
  | _ => fun _ => false
def chkA (D : Nm) (S : Sc) : Ex → List Expr → Bool
  | .anil => fun es => match es with
    | [] => true
    | _ => false
  | .acons a r => fun es => match es with
    | e :: es => !isStar e && chkE D S a e && chkA D S r es
    | _ => false
  | .astar a r => fun es => match es with
    | .Starred e _ :: es => chkE D S a e && chkA D S r es
    | _ => false
  | _ => fun _ => false
def chkF (D : Nm) (S : Sc) : Ex → Expr → Bool
  | .disp as => fun e => match e with
    | .List es _ => chkA D S as es
    | _ => false
  | .comp own tg it c el => fun e => match e with
    | .ListComp elt [⟨target, iter, ifs, 0⟩] scope _ => decide ((ownP S own).map (·.2) = own) && blkC S.N S.sc scope (ownP S own) && tgIn tg own && noSet iter && chkT (S.blk scope) tg target && chkW D S it target iter && chkC D (S.blk scope) c ifs && chkE D (S.blk scope) el elt
    | _ => false
  | .listof a => fun e => match e with
    | .Call (.Name x _) [a'] [] _ => decide (x = Str.ofString "list") && glB S x && !isStar a' && chkE D S a a'
    | _ => false
  | .srt rev a => fun e => match e with
    | .Call (.Name x _) [a'] [] _ => decide (x = Str.ofString "sorted") && glB S x && !isStar a' && chkE D S a a' && !rev
    | .Call (.Name x _) [a'] [⟨some k, .Constant (.bool true) _ _, _⟩] _ => decide (x = Str.ofString "sorted") && decide (k = Str.ofString "reverse") && glB S x && !isStar a' && chkE D S a a' && rev
    | _ => false
  | .lrg as => fun e => match e with
    | .Call (.Name x _) [.Call (.Name y _) es [] _] [] _ => decide (x = Str.ofString "list") && decide (y = Str.ofString "range") && glB S x && glB S y && noStars es && chkA D S as es && decide (1 ≤ es.length) && decide (es.length ≤ 2)
    | _ => false
  | .cat a b => fun e => match e with
    | .BinOp a' .Add b' _ => chkE D S a a' && chkE D S b b'
    | _ => false
  | .rep a b => fun e => match e with
    | .BinOp a' .Mult b' _ => chkE D S a a' && chkE D S b b'
    | _ => false
  | .slf a lo hi => fun e => match e with
    | .Subscript a' (.Slice lo' hi' none _) _ => chkE D S a a' && chkO D S lo lo' && chkO D S hi hi'
    | _ => false
  | _ => fun _ => false
def chkW (D : Nm) (S : Sc) : Ex → Expr → Expr → Bool
  | .over a => fun _ e => chkE D S a e
  | .range as => fun _ e => match e with
    | .Call (.Name x _) es [] _ => decide (x = Str.ofString "range") && glB S x && noStars es && chkA D S as es && decide (1 ≤ es.length) && decide (es.length ≤ 3)
    | _ => false
  | .enum a => fun t e => match t, e with
    | .Tuple _ _ _, .Call (.Name x _) [a'] [] _ => decide (x = Str.ofString "enumerate") && glB S x && !isStar a' && chkE D S a a'
    | _, _ => false
  | .zip a b => fun t e => match t, e with
    | .Tuple _ _ _, .Call (.Name x _) [a', b'] [] _ => decide (x = Str.ofString "zip") && glB S x && noStars [a', b'] && chkE D S a a' && chkE D S b b'
    | _, _ => false
  | _ => fun _ _ => false
def chkO (D : Nm) (S : Sc) : Ex → Option Expr → Bool
  | .noe => fun o => match o with
    | none => true
    | _ => false
  | .sm a => fun o => match o with
    | some e => chkE D S a e
    | _ => false
  | _ => fun _ => false
def chkC (D : Nm) (S : Sc) : Ex → List Expr → Bool
  | .noe => fun o => match o with
    | [] => true
    | _ => false
  | .sm a => fun o => match o with
    | [e] => chkE D S a e
    | _ => false
  | _ => fun _ => false
end
end Mi
set_option Elab.async false
set_option linter.all false
set_option maxRecDepth 100000
set_option maxHeartbeats 4000000
namespace Mi
open PySem PySem.W PySem.Calls PyProof.Rows
structure EB (B newId initId : String) (bmB : List Value) : Prop where
  X : ExcBaseFacts B newId initId bmB
  S : StoreFacts B bmB "object.__setattr__" "object"
  U : KxsFacts B initId
structure SupTxt (params : Arguments) (body : List Stmt) (scope : Scope) (sf ga f : Str) : Prop where
  bd : ∃ p0 p1 p2 p3 p4 p5 p6 p7 p8 p9, body = [.Expr (.Call (.Attribute (.Call (.Name "super" p0) [] [] p1) "__init__" p2) [.Name ga p3] [] p4) p5, .Assign [.Attribute (.Name sf p6) f p7] (.Name ga p8) p9] ∧ (p2.endLine == p4.line) = true
  hd : ∃ ar, (params.posonlyargs ++ params.args).head? = some ar ∧ ar.arg = sf
  bi : ∀ (qual : Str) (kV doc pm : Value) (an : Option Addr) (cdv ct : Value) (cc : Addr) (u v : Value), bindArgs (ksFn "__init__" qual params body scope .none kV doc pm an cdv ct cc) ⟨[u, v], []⟩ = pure [(sf, u), (ga, v)]
  kd : scope.kind = .function
  co : scope.isCoroutine = false
  gn : scope.isGenerator = false
  nc : ∀ x ∈ scope.names, x.2 ≠ .cell
  ls : scope.names.lookup sf = some .local
  lg : scope.names.lookup ga = some .local
  lu : scope.names.lookup ("super" : Str) = some .globalImplicit
  lc : scope.names.lookup ("__class__" : Str) = some .free
  ne : ga ≠ sf
  d1 : (ga == ("__debug__" : Str)) = false
  d2 : (sf == ("__debug__" : Str)) = false
  d3 : (ga == ("__classdict__" : Str)) = false
  d4 : (sf == ("__classdict__" : Str)) = false
structure SupK (prog : Program) (K : Frag) (C fI : Addr) (B newId initId : String) (bmB : List Value) (sf ga f : Str) : Prop where
  eb : EB B newId initId bmB
  q : excInitIn K C bmB newId = true
  ov : excOver K C bmB = true
  hi : findIn K (.ref C) "__init__" = some (some (.ref fI))
  ti : typeIn K (.ref fI) = some (.type "function")
  fn : ∃ qual params body scope kV doc pm an cda ct cc oc od osl ccl cdd vs ccs file tf cl cld csl cdC,
    K.lookup fI = some ⟨oc, od, .func (ksFn "__init__" qual params body scope .none kV doc pm an (.ref cda) ct cc), osl⟩ ∧ codeIn K (.ref cda) qual = true ∧
    K.lookup cda = some ⟨ccl, cdd, .fields vs, ccs⟩ ∧ vs[2]? = some (.str file tf) ∧ ((prog.main.file : Str) == file) = true ∧
    K.lookup cc = some ⟨cl, cld, .cell (some (.ref C)), csl⟩ ∧ clsIn K C = some cdC ∧ SupTxt params body scope sf ga f
  sup : ks_superIn K C C "__init__" = some (some (.builtin initId))
  sB : subIn K (.ref C) (.type B) = some true
  sC : mroIn K C (.ref C) = some true
  op : nsIn K cStatics "thirdparty.any" = some none
  top : (prog.main.scope.names.lookup ("super" : Str)).isSome = false
  sa : findIn K (.ref C) "__setattr__" = some (some (.builtin "object.__setattr__"))
  tk : takerIn K C f = some none
  hh : hasDictIn K C = true
  bE : subIn K (.ref C) (.type "BaseException") = some true
  tC : typeIn K (.ref C) = some (.type "type")
  kC : keepIn K (.ref C) = true
section
variable {prog : Program} {w : World} {A : Around} {R : Result → Shared → Prop} {K : Frag} {h : Heap} {g : Array GenState} {d : Drawn} {t : Nat} {os : OsState}
variable {C fI e t0 : Addr} {B newId initId : String} {bmB : List Value} {sf ga f : Str} {v : Value} {mg mb : Str → Option Value}
theorem get_push {h : Heap} {b : Addr} {o x : Obj} (e : h.get? b = some o) : (h.push x).get? b = some o := Heap.get?_push_of_some _ e
theorem sup_store (T : SupK prog K C fI B newId initId bmB sf ga f) (X : K.In h) (he : h.get? e = some (HandSPX.excO C t0)) {Q : Unit → Shared → Prop} {E : Value → Shared → Prop}
    (hq : ∀ h' tk' dx, (∀ b o, b ≠ e → h.get? b = some o → h'.get? b = some o) → h.objs.size ≤ dx → dx ≠ e → h'.get? e = some { cls := .ref C, dict := some dx, data := .fields #[.ref t0, .none, .none, .none, .bool false, .none] } →
      h'.Ns1 dx (fun y => if y = f then some v else none) → Q () ⟨h', g, d, tk', os⟩) :
    wpAny (model prog w) A (setAttr (.ref e) f v) Q E ⟨h, g, d, t, os⟩ := by
  have I : W.InstAt h e (HandSPX.excO C t0) C none := ⟨he, rfl, rfl, trivial⟩
  refine set_plain X I T.sa (osa_openX T.eb.S X I T.ov T.tk fun b => ?_)
  obtain ⟨cd, hc, hd'⟩ := any_some T.hh
  have hcls : Looks (model prog w) h (classData C) cd := looks_clsIn X hc
  have hes : e ≠ h.objs.size := Nat.ne_of_lt (Heap.lt_size he)
  show wpAny _ _ (Builtin.ObjectAttr.storeInOwnDict _ _ _ _ _ _) _ _ _
  obtain ⟨nm, bs, mro, ns, qn, hd, sn, sb, ab, col, del⟩ := cd
  dsimp only at hd'
  subst hd'
  unfold Builtin.ObjectAttr.storeInOwnDict Builtin.ObjectAttr.ownDictForStores
  repeat (first | with_reducible refine HandSPX.store_in_new ?_ ?_ | with_reducible refine wpAny_loadPart_at he ?_ | with_reducible refine hcls.at ?_ | wp_step)
  · exact ⟨_, #[], _, (Heap.get?_update_ne _ _ _ _ hes.symm).trans (Heap.get?_push_at rfl rfl), rfl, fun _ z => absurd z (by simp), fun _ => rfl⟩
  · intro h' tk' hn' hs
    have h1 : (h.push { cls := .type "dict", data := .dict #[] }).get? e = some (HandSPX.excO C t0) := get_push he
    refine hq h' tk' h.objs.size (fun b o hb ho => ?_) (Nat.le_refl _) hes.symm ?_ hn'
    · exact (hs.2 b (Nat.ne_of_lt (Heap.lt_size ho))).trans ((Heap.get?_update_ne _ _ _ _ hb).trans (get_push ho))
    · exact (hs.2 e hes).trans (Heap.get?_update_self _ h1 rfl)
theorem sup_wrapped (T : SupK prog K C fI B newId initId bmB sf ga f) (X : K.In h) {u : Addr} (hu : h.get? u = some (kxs_mw initId e)) (he : h.get? e = some (HandSPX.excO C t0)) {Q : Value → Shared → Prop} {E : Value → Shared → Prop}
    (hq : ∀ h' t1, (∀ b o, b ≠ e → h.get? b = some o → h'.get? b = some o) → h'.get? e = some (HandSPX.excO C t1) → Q .none ⟨h', g, d, t, os⟩) :
    wpAny (model prog w) A (call (.ref u) [v]) Q E ⟨h, g, d, t, os⟩ := by
  obtain ⟨nm, N', qn, bs, bm, hdct, sn, sub, ab, col, dd, k0, k1, k2, k3, k5, hC, hT⟩ := excInit_of X T.q
  refine wpAny_call (codeAny_of_tree ?_)
  show wpAny _ A.in1 (callAny (.ref u) ⟨[v], []⟩) _ _ _
  simp only [callAny]
  refine wpAny_bind (wpAny_load hu ?_)
  simp only [kxs_mw, show (Value.type "method-wrapper" == Value.type "method" || Value.type "method-wrapper" == Value.type "builtin_function_or_method" || Value.type "method-wrapper" == Value.type "method-wrapper") = true by decide, if_true]
  refine KFB.if_so (by decide) (wpAny_bind (check_bound_init T.eb.X.toExcCallFacts hC he rfl (wpAny_bind (wpAny_pure (wpAny_pure ?_)))))
  refine ⟨plainId_quiet T.eb.X.init.plain _, codeAny_builtin T.eb.X.initEntry ?_⟩
  exact exc_init_tree (cls := .ref C) (t0 := t0) (dv := none) (c2 := .none) (c3 := .none) (b4 := .bool false) he (by show 1 ≤ sizeLine; rw [sizeLine_eq]; omega) fun h' k e' _ => hq h' _ k e'
theorem sup_init (T : SupK prog K C fI B newId initId bmB sf ga f) (X : K.In h) (lim : h.NoLimit) (hg : h.Ns mainGlobals mg) (hs : mg "super" = none) (hb : h.Ns builtinsNs mb) (hbs : mb "super" = some (.type "super"))
    (room : A.depth < recursionLimit) (ke : K.lookup e = none) (he : h.get? e = some (HandSPX.excO C t0))
    (hq : ∀ h' tk' t1 dx, (∀ b o, b ≠ e → h.get? b = some o → h'.get? b = some o) → h.objs.size ≤ dx → dx ≠ e → h'.get? e = some { cls := .ref C, dict := some dx, data := .fields #[.ref t1, .none, .none, .none, .bool false, .none] } →
      h'.Ns1 dx (fun y => if y = f then some v else none) → R (.ok (.ret .none)) ⟨h', g, d, tk', os⟩) :
    codeAny (model prog w) A (.call (.ref fI) ⟨[.ref e, v], []⟩) R ⟨h, g, d, t, os⟩ := by
  obtain ⟨qual, params, body, scope, kV, doc, pm, an, cda, ct, cc, oc, od, osl, ccl, cdd, vs, ccs, file, tf, cl, cld, csl, cdC, hF, hcd, hcda, hvs, hfile, hcc, hcC, TX⟩ := T.fn
  obtain ⟨p0, p1, p2, p3, p4, p5, p6, p7, p8, p9, rfl, hline⟩ := TX.bd
  obtain ⟨ar, har, hsf⟩ := TX.hd
  subst hsf
  refine ks_codeAny_call_defAt (fd := ksFn "__init__" qual params _ scope .none kV doc pm an (.ref cda) ct cc) (binds := [(ar.arg, .ref e), (ga, v)]) room (X _ _ hF) rfl lim (codeRec_of X hcd) rfl (.of_eq (TX.bi ..)) TX.nc
    (fun x hx => ?_) (fun h1 hns k1 => ?_) TX.co TX.gn TX.kd
  · rcases List.mem_cons.mp hx with rfl | hx
    · exact TX.ls
    · rw [List.mem_singleton.mp hx]
      exact TX.lg
  have X1 : K.In h1 := X.keeps k1
  have e1 := k1 _ _ he
  have m_s : (([(ar.arg, .ref e), (ga, v)] : List (Str × Value)).reverse).lookup ar.arg = some (.ref e) := by
    show ([(ga, v), (ar.arg, Value.ref e)] : List (Str × Value)).lookup ar.arg = _
    rw [List.lookup_cons, show (ar.arg == ga) = false from by simpa using TX.ne.symm]
    simp
  have m_g : (([(ar.arg, .ref e), (ga, v)] : List (Str × Value)).reverse).lookup ga = some v := by
    show ([(ga, v), (ar.arg, Value.ref e)] : List (Str × Value)).lookup ga = _
    simp
  have hE : ∀ env : PySem.Env, eval (.Call (.Attribute (.Call (.Name "super" p0) [] [] p1) "__init__" p2) [.Name ga p3] [] p4) env = (do
      let ov ← attributeBase (.Call (.Name "super" p0) [] [] p1) "__init__" env (eval (.Call (.Name "super" p0) [] [] p1) env)
      standAt p2.atName
      let (f, first) ← holding [ov] (getMethod ov "__init__" (do return (← importBound (.Call (.Name "super" p0) [] [] p1) env).getD true))
      callWith p4 f first (backTo p4 (starEach [.Name ga p3] env)) []) := fun env => by
    have hpos : methodCallPos true (.Call (.Name "super" p0) [] [] p1) env p2 p4 = pure p4 := by
      unfold methodCallPos
      rw [hline]
      rfl
    show (do
      let ov ← attributeBase (.Call (.Name "super" p0) [] [] p1) "__init__" env (eval (.Call (.Name "super" p0) [] [] p1) env)
      standAt p2.atName
      let (f, first) ← holding [ov] (calleeOf true (.Call (.Name "super" p0) [] [] p1) env ov "__init__")
      let cp ← methodCallPos true (.Call (.Name "super" p0) [] [] p1) env p2 p4
      callWith cp f first (backTo p4 (starEach [.Name ga p3] env)) []) = _
    rw [hpos]
    simp only [pure_bind]
    rfl
  refine ks_wpAt_execs_cons (ks_wpAt_Expr_any (ks_wpAt_MethodCall ?_ (hE _)) (by show (scope.kind == _ && _) = false; rw [TX.kd]; rfl))
  obtain ⟨oD, hD1, hD2⟩ : ∃ oD, h1.get? C = some oD ∧ oD.data = .cls cdC := by
    unfold clsIn at hcC
    split at hcC
    · rename_i c d cd' sl ho
      cases hcC
      exact ⟨_, X1 _ _ ho, rfl⟩
    · cases hcC
  refine ks_wpAt_super_base TX.lu TX.lc (by decide) rfl (X1 _ _ hF) rfl har rfl (X1 _ _ hcda) rfl hvs hfile T.top ?_
  refine ks_loadName_global TX.kd TX.lu (loadGlobal_builtin (hg.keeps k1) hs (hb.keeps k1) hbs ⟨rfl, ?_⟩)
  refine wpAny_loadName_free TX.kd TX.lc rfl ⟨_, X1 _ _ hcc, rfl⟩ ?_
  refine wpAny_loadName_local TX.kd TX.ls hns m_s ?_
  refine ks_wpAny_isType_cls hD1 hD2 ⟨rfl, ?_⟩
  refine ks_wpAny_call_super hD1 hD2 e1 rfl (fun c z => by cases z) (looks_mroIn X1 T.sC) (fun h2 so2 k2 => ?_)
  have X2 : K.In h2 := X1.keeps k2
  have e2 := k2 _ _ e1
  have I2 : W.InstAt h2 e (HandSPX.excO C t0) C none := ⟨e2, rfl, rfl, trivial⟩
  have hsup : alongIn K "__init__" ((cdC.mro.dropWhile (· != .ref C)).drop 1) = some (some (.builtin initId)) := by
    have z := T.sup
    unfold ks_superIn at z
    rw [hcC] at z
    exact z
  refine kxs_getMethod T.eb.U so2 (looks_opaque X2 T.op) (l₀ := cdC.mro) (fun A Q E s k q => wpAny_bind ((looks_clsIn X2 hcC) A _ E s k (wpAny_pure q))) rfl X2 hsup (I2.type.andThen (looks_subIn X2 T.sB)) (ks_ne X2 I2 hcC) (by decide) ?_
  have k3 : ∀ b o, h2.get? b = some o → (h2.push (kxs_mw initId e)).get? b = some o := fun b o z => get_push z
  have u3 : (h2.push (kxs_mw initId e)).get? h2.objs.size = some (kxs_mw initId e) := Heap.get?_push_at rfl rfl
  have n3 : (h2.push (kxs_mw initId e)).Ns h.objs.size _ := (hns.keeps k2).keeps k3
  refine kxs_callWith (i := initId) (x := e) rfl (evalArgs_plain (Calls.spliced_cons (wpAny_Name (wpAny_loadName_local TX.kd TX.lg n3 m_g (Calls.spliced_nil ⟨u3, ?_⟩)) TX.d1)))
  refine sup_wrapped T (X2.keeps k3) u3 (k3 _ _ e2) fun h4 t1 k4 e4 => ?_
  have keep : ∀ b o, b ≠ e → h.get? b = some o → h4.get? b = some o := fun b o nb z => k4 b o nb (k3 _ _ (k2 _ _ (k1 _ _ z)))
  have X4 : K.In h4 := fun b o z => k4 b o (fun y => by rw [y, ke] at z; cases z) ((X2.keeps k3) b o z)
  have n4 : h4.Ns h.objs.size (fun x => (([(ar.arg, .ref e), (ga, v)] : List (Str × Value)).reverse).lookup x) := by
    obtain ⟨o, es, ep, ho, r⟩ := n3
    exact ⟨o, es, ep, k4 _ _ (Nat.ne_of_gt (Heap.lt_size he)) ho, r⟩
  refine ks_wpAt_execs_cons (ks_wpAt_Assign_Attr (wpAt_of_wpAny (wpAny_Name (wpAny_loadName_local TX.kd TX.lg n4 m_g (wpAny_Name (wpAny_loadName_local TX.kd TX.ls n4 m_s ?_) TX.d2)) TX.d1)))
  refine sup_store T X4 e4 fun h5 tk5 dx k5 hdx ndx e5 n5 => ?_
  refine wpAt_of_wpAny (wpAny_execs_nil ?_)
  refine hq h5 tk5 t1 dx (fun b o nb z => k5 b o nb (keep b o nb z)) ?_ ndx e5 n5
  obtain ⟨o, _, _, ho, _⟩ := n4
  exact Nat.le_of_lt (Nat.lt_of_lt_of_le (Heap.lt_size ho) hdx)
end
end Mi
namespace Mi
open PySem PySem.Spec PyProof.Rows L2
theorem boot_super : bootBuiltins "super" = some (.type "super") := by first | boot_by_name | rfl | kernel_rfl
theorem pmk_sup {X : Cx} {C fI : Addr} {B newId initId : String} {bmB : List Value} {sf ga f x : Str} {a : Expr} {p pos : Pos} {te : TE} {k : Nat} (T : SupK X.prog X.K C fI B newId initId bmB sf ga f) (hg : Gl X x) (hm : X.mg x = some (.ref C)) (hs : X.mg "super" = none) (hr : Room (k + 1) X.A)
    (ha : PE X a te) (hdb : (x == ("__debug__" : Str)) = false := by decide) (he : starEach [a] X.env = (false, eval a X.env) :: starEach [] X.env := by rfl) :
    PMk X (.Call (.Name x p) [a] [] pos) (fun σ H Q => te σ H fun v H1 => ∀ d, H1 d = none → Q (.ref C) (some d) (upd H1 d (.xd [(f, v)]))) := by
  intro pins s σ H Q I h
  refine wpAny_Call_Name_kw (ld_glob I hg hm ?_ hdb)
  have hPA : PA X [a] (tCons te tNil) := pa_cons ha pa_nil he
  refine PySem.W.callWith_K (h₀ := X.base) I.ok.mod.kin T.kC (thn (hPA.run pos pins s σ H (fun vs H1 => match vs with
    | [v] => ∀ d, H1 d = none → Q (.ref C) (some d) (upd H1 d (.xd [(f, v)]))
    | _ => False) I h) fun us s1 hh => ?_) he (by rfl)
  obtain ⟨vs, H1, I1, r1, q⟩ := hh
  refine ⟨I1.kIn, ?_⟩
  cases r1 with
  | nil => exact q.elim
  | cons ru rn =>
    rename_i v u vs' us'
    cases rn with
    | cons _ _ => exact q.elim
    | nil =>
      show wpAny _ _ (call (.ref C) [u]) _ _ _
      obtain ⟨nm, N', qn, bs, bm, hdct, sn, sub, ab, col, dd, k0, k1, k2, k3, k5, hC, hT⟩ := PySem.W.excInit_of I1.kIn T.q
      have lim := I1.nolimit
      have gl := I1.mod.glob.keeps I1.bk
      obtain ⟨mb, b1, b2⟩ := I1.mod.blt
      have bl := b1.keeps I1.bk
      have kin := I1.kIn
      obtain ⟨hp, g, dr, tk, os⟩ := s1
      have up : ∀ b o, hp.get? b = some o → ((hp.push (PySem.W.kdv_tup [u])).push (PySem.HandSPX.excO C hp.objs.size)).get? b = some o := fun b o e => get_push (get_push e)
      have here : ((hp.push (PySem.W.kdv_tup [u])).push (PySem.HandSPX.excO C hp.objs.size)).get? (hp.objs.size + 1) = some (PySem.HandSPX.excO C hp.objs.size) := by heap_get
      have nb : ∀ {b : Addr} {o : Obj}, hp.get? b = some o → b ≠ hp.objs.size + 1 := fun {b o} e => Nat.ne_of_lt (Nat.lt_succ_of_lt (Heap.lt_size e))
      have ke : X.K.lookup (hp.objs.size + 1) = none := by
        cases z : X.K.lookup (hp.objs.size + 1) with
        | none => rfl
        | some o => exact absurd rfl (nb (kin _ _ z))
      refine wpAny_call (PySem.HandSPX.call_own T.eb.X hT hC (PySem.W.looks_findIn kin T.hi) (fun self => PySem.W.bind_fn kin self T.ti) (by show 1 ≤ sizeLine; rw [sizeLine_eq]; omega) ?_)
      refine sup_init T (fun b o e => up b o (kin b o e)) (lim.keeps up) (gl.keeps up) hs (bl.keeps up) ((b2 "super" (by decide)).trans boot_super) (hr.make C [u] []).depth ke here fun h5 t5 t1 dx k5 hdx ndx e5 n5 => ?_
      obtain ⟨G, gy, gn⟩ := restrict h5 fun b => decide (b ≠ hp.objs.size + 1)
      have gk : ∀ b, b ≠ hp.objs.size + 1 → G.get? b = h5.get? b := fun b hb => gy b (decide_eq_true hb)
      have ga : G.get? (hp.objs.size + 1) = none := gn _ (by simp)
      have hx : hp.objs.size ≤ dx := by
        rw [Heap.size_push, Heap.size_push] at hdx
        omega
      have J : L2.Inv X pins σ (upd H1 dx (.xd [(f, v)])) ⟨G, g, dr, t5, os⟩ := I1.laid (t' := t5) (a := dx) (o := .xd [(f, v)]) (h' := G) (fun b o e => (gk b (nb e)).trans (k5 b o (nb e) (up b o e))) hx ⟨_, n5.at fun o y => (gk dx ndx).trans y, relO_put (fs := []) ru fun _ => True.intro⟩
      refine ⟨rfl, hp.objs.size + 1, _, _, ⟨G, g, dr, t5, os⟩, _, .ref C, some dx, rfl, J, fun b o e => ?_, ga, e5, ⟨rfl, rfl⟩, rfl, rfl, ?_, rfl, I1.bare, raises_own T.bE T.tC, q dx (I1.hok.fresh hx)⟩
      · by_cases hb : b = hp.objs.size + 1
        · have e : G.get? b = some o := e
          rw [hb, ga] at e
          cases e
        · exact (gk b hb).symm.trans e
      · rw [upd_ne (Ne.symm ndx)]
        exact I1.hok.fresh (Nat.le_succ _)
end Mi
set_option Elab.async false
set_option linter.all false
set_option maxRecDepth 100000
set_option maxHeartbeats 4000000
namespace Mi
open PySem PySem.Spec PyProof.Rows L2
def endsAs (D : Ends) (i : Nat) : Ends := { nx := fun τ G => D.nx (τ.set i none) G, rt := D.rt, bk := fun τ G => D.bk (τ.set i none) G, ct := fun τ G => D.ct (τ.set i none) G }
abbrev Cl := Value × Option Nat × (Addr → Value → Option Addr → TS)
def wMix (K : PySem.W.Frag) (n : Nat) (Wo : WX) (D : Ends) : List Cl → WX
  | [] => Wo
  | (c, sl, ts) :: r => fun cls d σ H => ∃ b, PySem.W.exmOne K cls c = some b ∧
      (b = true → ∀ a, H a = none → σ.length = n → match sl with
        | none => ts a cls d D σ H
        | some i => ts a cls d (endsAs D i) (σ.set i (some (.ref a))) H) ∧
      (b = false → wMix K n Wo D r cls d σ H)
inductive HdsMix (X : Cx) : List ExceptHandler → List Cl → Prop
  | nil : HdsMix X [] []
  | cons {x : Str} {c : Value} {ts : Addr → Value → Option Addr → TS} {b1 : Stmt} {bs : List Stmt} {p q : Pos} {hd : List ExceptHandler} {l : List Cl} (nm : Names X x c)
      (su : ∀ (a : Addr) (o : Obj) (cls : Value) (d : Option Addr) (pn : List (Addr × Obj)), Zc cls d o → (∃ vs, o.data = .fields vs) → PSs (X.suite a ((a, o) :: pn)) (b1 :: bs) (ts a cls d)) (r : HdsMix X hd l) :
      HdsMix X (.ExceptHandler (some (.Name x p)) none (b1 :: bs) q :: hd) ((c, none, ts) :: l)
  | consA {x n : Str} {i : Nat} {c : Value} {ts : Addr → Value → Option Addr → TS} {b1 : Stmt} {bs : List Stmt} {p q : Pos} {hd : List ExceptHandler} {l : List Cl} (nm : Names X x c) (hi : X.N[i]? = some n) (hl : X.env.kindOf n = some .local)
      (su : ∀ (a : Addr) (o : Obj) (cls : Value) (d : Option Addr) (pn : List (Addr × Obj)), Zc cls d o → (∃ vs, o.data = .fields vs) → PSs (X.suite a ((a, o) :: pn)) (b1 :: bs) (ts a cls d)) (r : HdsMix X hd l) :
      HdsMix X (.ExceptHandler (some (.Name x p)) (some n) (b1 :: bs) q :: hd) ((c, some i, ts) :: l)
section
variable {X : Cx} {body : List Stmt} {h1 : ExceptHandler} {hd : List ExceptHandler} {l : List Cl} {pos : Pos} {tb : WX → TS} {Wo : WX}
theorem ps_tryM (stk : X.stack = X.env :: X.outer) (fr : X.env.frame = some X.env.locals) (nd : X.N.Nodup) (tk : Takes X Wo)
    (bd : ∀ (W : WX) (pn : List (Addr × Obj)) (xe : Value → Shared → Prop), Takes (X.tr pn xe) W → PassesOwn (model X.prog X.w) X.A X.env xe → PSs (X.tr pn xe) body (tb W))
    (hh : HdsMix X (h1 :: hd) l) : PS X (.Try body (h1 :: hd) [] [] pos) (fun D σ H => tb (wMix X.K X.N.length Wo D l) D σ H) := by
  refine ⟨fun pins s0 σ0 H0 D I0 asked => ?_⟩
  have okX := I0.ok
  have fA : X.A.frames = some (X.env :: X.outer) := okX.frames.trans (by rw [stk])
  let after : Value → Shared → Prop := fun e s1 => wpAny (model X.prog X.w) X.A (noteFrame e X.env) (fun _ s2 => wpAny (model X.prog X.w) X.A (setFlight e none) (fun _ s3 =>
    wpAny (model X.prog X.w) X.A (handleBy e X.env (h1 :: hd)) (SP X pins D) X.xe s3) X.xe s2) X.xe s1
  have caught : Takes (X.tr (X.pn ++ pins) after) (wMix X.K X.N.length Wo D l) := fun u s' air => by
    obtain ⟨a, B, sI, pins1, σ, H, cls, d, eu, J1, nb, up, sky, na, eos, ag, asks⟩ := air
    subst eu
    have J : L2.Inv X pins σ H sI := J1.ofTry okX
    have sk : Sky B (X.env :: X.outer) a (Zc cls d) X.env.locals s'.heap := by rw [← stk]; exact sky
    show wpAny (model X.prog X.w) X.A (noteFrame (.ref a) X.env) _ _ _
    refine Sky.land Zc.steady fA fr sk fun g fly up1 => ?_
    have Jg : L2.Inv X pins σ H { s' with heap := g } := J.landed nb fly.1 (up.trans up1) eos ag
    obtain ⟨og, vg, eg, zg, dg⟩ := fly.there
    have nfr : a ∉ frs (X.env :: X.outer) := fun hm => by
      obtain ⟨_, o2, e2, nf⟩ := fly.2.2.1.mem hm
      rw [eg] at e2
      cases e2
      exact nf _ dg
    have nL : a ≠ X.env.locals := fun z => nfr (List.mem_filterMap.mpr ⟨_, List.mem_cons_self, by rw [fr, z]⟩)
    have nF : a ∉ X.fs := fun hm => by
      obtain ⟨e3, h3, q3⟩ := List.mem_filterMap.mp hm
      exact nfr (List.mem_filterMap.mpr ⟨e3, List.mem_cons_of_mem _ h3, q3⟩)
    have Sg := Jg.suite eg dg na nL nF
    -- clause by clause
    have go : ∀ {hs : List ExceptHandler} {cl : List Cl}, HdsMix X hs cl → wMix X.K X.N.length Wo D cl cls d σ H → wpAny (model X.prog X.w) X.A (handleBy (.ref a) X.env hs) (SP X pins D) X.xe { s' with heap := g } := by
      intro hs cl hk
      -- the class that is named
      have named : ∀ {x : Str} {c : Value} {p : Pos} {Q E : Value → Shared → Prop}, Names X x c → Q c { s' with heap := g } → wpAny (model X.prog X.w) (X.A.mark (some (.ref a))) (eval (.Name x p) X.env) Q E { s' with heap := g } := fun {x c p Q E} nm q => by
        obtain ⟨g1, g2, g3 | ⟨g3, g4, g5⟩⟩ := nm
        · exact ld_glob (X := X.suite a ((a, og) :: (X.pn ++ pins))) Sg g1 g3 q g2
        · exact ld_blt (X := X.suite a ((a, og) :: (X.pn ++ pins))) Sg g1 g3 g4 q g5 g2
      have typ : PySem.W.Looks (model X.prog X.w) g (typeOf (.ref a)) cls := fun A Q E s k q => wpAny_typeOf_ref (k _ _ eg) (by rw [zg.1]; exact q)
      induction hk with
      | nil =>
        intro out
        refine wpAny_handleBy_nil ?_
        obtain ⟨_, _, _, o4, v4, T, oT, ts4, e4, _, d4, f4, _⟩ := id fly
        unfold PySem.passOn
        refine wpAny_bind (wpAny_field e4 d4 f4 ?_)
        rw [if_neg (show ¬ ((Value.ref T == Value.none) = true) by simp)]
        have on : wpAny (model X.prog X.w) X.A (setFlight (.ref a) X.env.frame) (fun _ s5 => wpAny (model X.prog X.w) X.A (throw (.ref a) : Sem Flow) (SP X pins D) X.xe s5) X.xe { s' with heap := g } := by
          rw [fr]
          refine HandSPX.setFlight_upZ fly fun g5 held up5 => wpAny_throw (tk _ _ ?_)
          exact ⟨a, B, sI, pins, σ, H, cls, d, rfl, J, nb, (up.trans up1).trans up5, .inr (.inr (by rw [stk]; exact held)), na, eos, ag, out⟩
        first
          | exact wpAny_bind (wpAny_pure (wpAny_bind on))
          | exact wpAny_bind on
      | @cons x c ts b1 bs p q hd2 l2 nm su r ih =>
        intro asks
        obtain ⟨b, eb, yes, no⟩ := asks
        refine wpAny_handleBy_cons (codeAny_handlers_test ?_) (by intro z; cases z)
        refine named nm ((PySem.W.exm_one (M := model X.prog X.w) Jg.kIn typ eb).here ?_)
        cases b with
        | false => exact ih (no rfl)
        | true =>
          refine codeAny_handlers_suite ?_
          refine HandSPX.lands_againZ fly fun g6 fly6 up6 => ?_
          have J6 : L2.Inv X pins σ H { s' with heap := g6 } := J.landed nb fly6.1 ((up.trans up1).trans up6) eos ag
          obtain ⟨o6, v6, e6, z6, d6⟩ := fly6.there
          refine wpAny_mono ((su a o6 cls d (X.pn ++ pins) z6 ⟨_, d6⟩).run [] _ _ H _ (J6.suite e6 d6 na nL nF) (yes rfl a na J.len)) (fun fl s7 ends => ?_) (fun _ _ z => z.elim)
          cases fl with
          | next => obtain ⟨τ, G, S7, q7⟩ := ends; exact ⟨_, _, S7.unsuite okX, q7⟩
          | brk => obtain ⟨τ, G, S7, q7⟩ := ends; exact ⟨_, _, S7.unsuite okX, q7⟩
          | cont => obtain ⟨τ, G, S7, q7⟩ := ends; exact ⟨_, _, S7.unsuite okX, q7⟩
          | ret u => obtain ⟨v7, τ, G, S7, r7, q7⟩ := ends; exact ⟨_, _, _, S7.unsuite okX, r7, q7⟩
      | @consA x n i c ts b1 bs p q hd2 l2 nm hi hl su r ih =>
        intro asks
        obtain ⟨b, eb, yes, no⟩ := asks
        refine wpAny_handleBy_cons (codeAny_handlers_test ?_) (by intro z; cases z)
        refine named nm ((PySem.W.exm_one (M := model X.prog X.w) Jg.kIn typ eb).here ?_)
        cases b with
        | false => exact ih (no rfl)
        | true =>
          refine codeAny_handlers_suite_as ?_
          refine HandSPX.lands_againZ fly fun g6 fly6 up6 => ?_
          have J6 : L2.Inv X pins σ H { s' with heap := g6 } := J.landed nb fly6.1 ((up.trans up1).trans up6) eos ag
          obtain ⟨o6, v6, e6, z6, d6⟩ := fly6.there
          refine store_ok (X := X.suite a ((a, o6) :: (X.pn ++ pins))) (v := .ref a) (J6.suite e6 d6 na nL nF) nd hi (.inl hl) rfl (fun s8 S8 => ?_) (.inr hl)
          refine wpAny_mono ((su a o6 cls d (X.pn ++ pins) z6 ⟨_, d6⟩).run [] s8 _ H _ S8 (yes rfl a na J.len)) (fun fl s7 ends => ?_) (fun _ _ z => z.elim)
          have goes : ∀ {τ : L2.St} {G : Hp} {Q : Shared → Prop}, L2.Inv (X.suite a ((a, o6) :: (X.pn ++ pins))) [] τ G s7 → (∀ s9, L2.Inv X pins (τ.set i none) G s9 → Q s9) →
              wpAny (model X.prog X.w) X.A (do bindName X.env n .none; unbindBehindTheSuite X.env n q) (fun _ s9 => Q s9) X.xe s7 := fun {τ G Q} S q9 => gone_ok (S.unsuite okX) nd hi hl q9
          cases fl with
          | next => obtain ⟨τ, G, S7, q7⟩ := ends; exact goes S7 fun s9 J9 => ⟨_, _, J9, q7⟩
          | brk => obtain ⟨τ, G, S7, q7⟩ := ends; exact goes S7 fun s9 J9 => ⟨_, _, J9, q7⟩
          | cont => obtain ⟨τ, G, S7, q7⟩ := ends; exact goes S7 fun s9 J9 => ⟨_, _, J9, q7⟩
          | ret u => obtain ⟨v7, τ, G, S7, r7, q7⟩ := ends; exact goes S7 fun s9 J9 => ⟨_, _, _, J9, r7, q7⟩
    exact go hh asks
  refine wpAny_Try_except (wpAny_mono ((bd (wMix X.K X.N.length Wo D l) (X.pn ++ pins) after caught PassesOwn.looking).run [] s0 σ0 H0 D (I0.toTry _) asked) (fun fl s1 ends => ?_) fun _ _ z => z)
  cases fl with
  | next => obtain ⟨τ, G, J, q⟩ := ends; exact wpAny_execs_nil ⟨τ, G, J.ofTry okX, q⟩
  | brk => obtain ⟨τ, G, J, q⟩ := ends; exact ⟨τ, G, J.ofTry okX, q⟩
  | cont => obtain ⟨τ, G, J, q⟩ := ends; exact ⟨τ, G, J.ofTry okX, q⟩
  | ret u => obtain ⟨v, τ, G, J, r, q⟩ := ends; exact ⟨v, τ, G, J.ofTry okX, r, q⟩
end
end Mi
set_option Elab.async false
set_option linter.all false
set_option maxRecDepth 100000
set_option maxHeartbeats 4000000
namespace Mi
open PySem PySem.Spec PyProof.Rows L2
section
variable {X : Cx} {Γ : Gm} {L m : List Addr} {H : Hp} {pins : List (Addr × Obj)} {σ : L2.St} {s : Shared}
mutual
theorem reads_v (C : X.K = Γ.K) (I : L2.Inv X pins σ H s) : ∀ (x : Vl) {d : PyData} {u : V} {v : Value}, dataV x = some d → RepV Γ L m H x u → L2.RelV u v → ∃ as, Reads s.heap v d as
  | .non, d, u, v, e, r, rv => by
    unfold dataV at e
    cases e
    cases (show u = _ from r)
    obtain rfl : v = Value.none := rv
    exact ⟨_, .none⟩
  | .bl b, d, u, v, e, r, rv => by
    unfold dataV at e
    cases e
    cases (show u = _ from r)
    obtain rfl : v = Value.bool b := rv
    exact ⟨_, .bool b⟩
  | .int i, d, u, v, e, r, rv => by
    unfold dataV at e
    cases e
    cases (show u = _ from r)
    obtain ⟨t, rfl⟩ := rv
    exact ⟨_, .int i t⟩
  | .str x, d, u, v, e, r, rv => by
    unfold dataV at e
    cases e
    cases (show u = _ from r)
    obtain ⟨t, rfl⟩ := rv
    exact ⟨_, .str _ t⟩
  | .tup xs, d, u, v, e, r, rv => by
    unfold dataV at e
    split at e
    · rename_i l hl
      cases e
      obtain ⟨a, us, rfl, q, rl⟩ := r
      obtain rfl : v = Value.ref a := rv
      rw [← C] at q
      obtain ⟨its, r2, ⟨o, eo, ec, n, ed⟩, _⟩ := I.tuple q
      obtain ⟨as, ra⟩ := reads_l C I xs hl rl r2
      exact ⟨as, .tuple eo ec ed (by simpa using ra)⟩
    · cases e
  | .lst xs, d, u, v, e, r, rv => by
    unfold dataV at e
    split at e
    · rename_i l hl
      cases e
      obtain ⟨a, us, rfl, q, _, _, rl⟩ := r
      obtain rfl : v = Value.ref a := rv
      obtain ⟨_, its, n, r2, eo⟩ := I.hok a _ q
      obtain ⟨as, ra⟩ := reads_l C I xs hl rl r2
      exact ⟨_, .list eo rfl rfl (by simpa using ra)⟩
    · cases e
  | .scr _, d, u, v, e, r, rv => by unfold dataV at e; cases e
  | .dct _, d, u, v, e, r, rv => by unfold dataV at e; cases e
  | .ins _ _, d, u, v, e, r, rv => by unfold dataV at e; cases e
  | .ref _, d, u, v, e, r, rv => by unfold dataV at e; cases e
  | .fn _, d, u, v, e, r, rv => by unfold dataV at e; cases e
  | .clo _, d, u, v, e, r, rv => by unfold dataV at e; cases e
theorem reads_l (C : X.K = Γ.K) (I : L2.Inv X pins σ H s) : ∀ (xs : List Vl) {ds : List PyData} {us : List V} {vs : List Value}, dataL xs = some ds → RepL Γ L m H xs us → Vals us vs → ∃ as, ReadsAll s.heap vs ds as
  | [], ds, us, vs, e, r, rv => by
    unfold dataL at e
    cases e
    cases us with
    | nil => cases rv; exact ⟨_, .nil⟩
    | cons _ _ => exact r.elim
  | x :: xs, ds, us, vs, e, r, rv => by
    unfold dataL at e
    split at e
    · rename_i d hd
      split at e
      · rename_i l hl
        cases e
        cases us with
        | nil => exact r.elim
        | cons u us =>
          cases rv with
          | cons r1 r2 =>
            obtain ⟨a1, h1⟩ := reads_v C I x hd r.1 r1
            obtain ⟨a2, h2⟩ := reads_l C I xs hl r.2 r2
            exact ⟨_, .cons h1 h2⟩
      · cases e
    · cases e
end
end
theorem shown_of {d : PyData} {y : List Nat} (e : shownD d = some y) : d.showable = true ∧ d.shown.length ≤ sizeLine ∧ d.depth ≤ 8 ∧ d.shown = ⟨y.toArray⟩ := by
  unfold shownD at e
  split at e
  · rename_i h
    simp only [Bool.and_eq_true, decide_eq_true_eq] at h
    cases e
    refine ⟨h.1.1, Nat.le_trans h.1.2 (by rw [sizeLine_eq]; decide), h.2, ?_⟩
    cases d.shown
    simp
  · cases e
section
variable {X : Cx} {Γ : Gm} {W : WX}
theorem cb_repr (hK : X.K = Γ.K) (hg : X.A.guards = some []) (hu : X.A.units + 64 < cLine) : CallR X (.builtin "repr") (fun xs H Q => ∃ x L m u y, xs = [u] ∧ RepV Γ L m H x u ∧ reprV x = some y ∧ Q (.str ⟨y.toArray⟩) H) := by
  intro pins s σ H xs us Q I r hq
  obtain ⟨x, L, m, u, y, rfl, rx, ey, q⟩ := hq
  obtain ⟨v, rfl, rv⟩ := vals1 r
  have fin : ∀ h' (t : Tok) tk, (∀ b o, s.heap.get? b = some o → h'.get? b = some o) → EP X pins σ Q (.str ⟨y.toArray⟩ t) { s with heap := h', toks := tk } := fun h' t tk k => ⟨.str _, H, I.kept k, ⟨t, rfl⟩, q⟩
  unfold reprV at ey
  split at ey
  · split at ey
    · obtain ⟨h1, h2, h3, h4⟩ := shown_of ey
      obtain ⟨_, a, rfl, qa, _, _⟩ := rx
      obtain rfl : v = Value.ref a := rv
      obtain ⟨_, hn, vs, kv, dk⟩ := I.hok a _ qa
      cases kv
      obtain ⟨o, es, ep, eo, ex, ed, _, pr, _⟩ := dk
      have en : es.toList = [] := by
        cases hh : es.toList with
        | nil => rfl
        | cons _ _ => rw [hh] at pr; cases pr
      rw [← h4] at fin
      have rd : Reads s.heap (.ref a) (.dict []) (a :: [] ++ []) := .dict eo ex.1 ed (by rw [en]; exact .nil) (by rw [en]; exact .nil)
      exact repr_of_reads' rd h1 (fun _ hm => by
        rcases List.mem_cons.mp hm with z | z
        · rw [← z] at hn
          simp at hn
        · cases z) hg (by omega) (fun _ _ e => e) (fun h' t tk k => fin h' t tk k) h2
    · cases ey
  · split at ey
    · rename_i d hd
      split at ey
      · cases ey
      · rename_i hnd
        obtain ⟨h1, h2, h3, h4⟩ := shown_of ey
        obtain ⟨as, rd⟩ := reads_v hK I x hd rx rv
        rw [← h4] at fin
        cases rd with
        | none => exact PySem.P.repr_of_none (fin _ _ _ fun _ _ e => e)
        | bool b => exact PySem.P.repr_of_bool (fin _ _ _ fun _ _ e => e)
        | int i t => exact PySem.P.repr_of_int (by unfold PyData.showable at h1; exact of_decide_eq_true h1) (fin _ _ _ fun _ _ e => e)
        | str x t => exact PySem.P.repr_of_str (fin _ _ _ fun _ _ e => e) h2
        | list a b c d => exact repr_of_reads' (.list a b c d) h1 (fun z => by rw [z] at hnd; cases hnd) hg (by omega) (fun _ _ e => e) (fun h' t tk k => fin h' t tk k) h2
        | tuple a b c d => exact repr_of_reads' (.tuple a b c d) h1 (fun z => by rw [z] at hnd; cases hnd) hg (by omega) (fun _ _ e => e) (fun h' t tk k => fin h' t tk k) h2
        | dict a b c d e => unfold PyData.hasDict at hnd; cases hnd
    · cases ey
end
theorem nm_of' {x : Str} (h : okNm x = true) : (x == ("__debug__" : Str)) = false ∧ (x == ("__classdict__" : Str)) = false := by
  unfold okNm at h
  simp only [Bool.and_eq_true, Bool.not_eq_true'] at h
  exact h
theorem boot_repr : bootBuiltins "repr" = some (.builtin "repr") := by first | boot_by_name | rfl | kernel_rfl
theorem xd_out {Γ : Gm} {L m : List Addr} {h : Hh} {H : Hp} {a : Addr} {fs : List (Str × V)} (rh : RepH Γ L m h H) (e : H a = some (.xd fs)) : a ∉ m := fun z => by
  obtain ⟨i, hi, ei⟩ := List.getElem_of_mem z
  have hl : i < h.length := by rw [← rh.len]; exact hi
  have r := rh.ob i a h[i] (by rw [← ei]; exact List.getElem?_eq_getElem hi) (List.getElem?_eq_getElem hl)
  cases ho : h[i] with
  | lst xs =>
    rw [ho] at r
    obtain ⟨us, q, _⟩ := r
    rw [e] at q
    cases q
  | dct kvs =>
    rw [ho] at r
    obtain ⟨us, q, _⟩ := r
    rw [e] at q
    cases q
  | ins c xs =>
    rw [ho] at r
    obtain ⟨dx, vs, q, _⟩ := r
    rcases q.2.2 with q | ⟨_, q⟩
    · rw [e] at q
      have q := Option.some.inj q
      unfold SlO at q
      cases q
    · rw [e] at q
      cases q
theorem RepX.grow {Γ : Gm} {L m m1 : List Addr} {h : Hh} {H H1 : Hp} {c : Nat} {p : Option Vl} {d : Option Addr} (rh : RepH Γ L m h H) (g : Grow m H m1 H1) (r : RepX Γ L m H c p d) : RepX Γ L m1 H1 c p d := by
  cases p with
  | none => trivial
  | some v =>
    obtain ⟨a, u, e1, e2, e3⟩ := r
    exact ⟨a, u, e1, g.keep _ _ e2 (xd_out rh e2) (fun _ z => nomatch z), e3.grow g⟩
def chkH (S : Sc) (nm : Option Str) (f : Str) : HE → Expr → Bool
  | .s x => fun e => match e with
    | .Constant (.str y) _ _ => decide (y = ⟨x.toArray⟩)
    | _ => false
  | .p => fun e => match e with
    | .Attribute (.Name n _) g _ => decide (nm = some n) && decide (g = f)
    | _ => false
  | .r x => fun e => match e with
    | .BinOp (.Constant (.str y) _ _) .Add (.Call (.Name b _) [.Attribute (.Name n _) g _] [] _) _ => decide (y = ⟨x.toArray⟩) && decide (b = Str.ofString "repr") && glB S b && decide (nm = some n) && decide (g = f)
    | _ => false
  | .t1 a => fun e => match e with
    | .Tuple [x] _ _ => !isStar x && chkH S nm f a x
    | _ => false
  | .t2 a b => fun e => match e with
    | .Tuple [x, y] _ _ => !isStar x && !isStar y && chkH S nm f a x && chkH S nm f b y
    | _ => false
def tH (Γ : Gm) (c : Nat) (a : Addr) (sl : Option Nat) (cls : Value) (d : Option Addr) (he : HE) : TE := fun σ H Q => ∃ L m h p, RepH Γ L m h H ∧ RepX Γ L m H c p d ∧ cls = .ref (Γ.xa c) ∧ (∀ i, sl = some i → σ[i]? = some (some (.ref a))) ∧ ∃ v, heV he p = some v ∧ okV Γ L m H h v Q
section
variable {X : Cx} {Γ : Gm} {S : Sc}
theorem he_pe {c i : Nat} {a : Addr} {oe : Obj} {cls : Value} {d : Option Addr} {pn : List (Addr × Obj)} {n f : Str} (hK : X.K = Γ.K) (hM : X.mg = Γ.mg) (hS : X.env.scope = S.sc) (hg : X.A.guards = some []) (hu : X.A.units + 64 < cLine) (hr : Γ.mg "repr" = none) (hf : f = Γ.xf c)
    (T : XfC Γ.K (Γ.xa c)) (hno : PySem.W.findIn Γ.K (.ref (Γ.xa c)) f = some none) (hi : X.N[i]? = some n) (hv : Vis X.env.scope n) (hn : okNm n = true) (hz : Zc cls d oe) (ho : ∃ vs, oe.data = .fields vs) :
    ∀ (he : HE) {e : Expr}, chkH S (some n) f he e = true → PE (X.suite a ((a, oe) :: pn)) e (tH Γ c a (some i) cls d he)
  | .s x, e, h => by
    unfold chkH at h
    split at h
    · cases of_decide_eq_true h
      refine pe_imp pe_str fun σ H Q hq => ?_
      obtain ⟨L, m, h, p, rh, rx, ec, es, v, ev, k⟩ := hq
      cases ev
      exact k.now rh rfl
    · cases h
  | .p, e, h => by
    unfold chkH at h
    split at h
    · simp only [Bool.and_eq_true] at h
      have h1 := of_decide_eq_true h.1
      have h2 := of_decide_eq_true h.2
      cases h1
      subst h2
      have T' : XfC X.K (Γ.xa c) := by rw [hK]; exact T
      have hn' := nm_of' hn
      refine pe_imp (pe_xf T' (by rw [hK]; exact hno) hz ho (pe_var (X := X.suite a ((a, oe) :: pn)) hi hv hn'.1 hn'.2)) fun σ H Q hq => ?_
      obtain ⟨L, m, h, p, rh, rx, ec, es, v, ev, k⟩ := hq
      refine ⟨.ref a, es i rfl, rfl, ec, ?_⟩
      cases p with
      | none => cases ev
      | some w =>
        cases ev
        obtain ⟨dd, u, e1, e2, e3⟩ := rx
        exact ⟨dd, _, u, e1, e2, by rw [hf]; simp, k.now rh e3⟩
    · cases h
  | .r x, e, h => by
    unfold chkH at h
    split at h
    · simp only [Bool.and_eq_true] at h
      obtain ⟨⟨⟨⟨h1, h2⟩, h3⟩, h4⟩, h5⟩ := h
      cases of_decide_eq_true h1
      cases of_decide_eq_true h2
      cases of_decide_eq_true h4
      have h5 := of_decide_eq_true h5
      subst h5
      have T' : XfC X.K (Γ.xa c) := by rw [hK]; exact T
      have hn' := nm_of' hn
      have gl : Gl (X.suite a ((a, oe) :: pn)) "repr" := by
        unfold glB at h3
        split at h3
        · rename_i q
          show X.env.scope.names.lookup _ = _
          rw [hS]
          exact q
        · cases h3
      have px := fun {q1 q2 : Pos} => pe_xf (pos := q1) T' (by rw [hK]; exact hno) hz ho (pe_var (pos := q2) (X := X.suite a ((a, oe) :: pn)) hi hv hn'.1 hn'.2)
      refine pe_imp (pe_op op_add_str pe_str (pe_callB (cb_repr (X := X.suite a ((a, oe) :: pn)) hK hg hu) gl (by show X.mg _ = none; rw [hM]; exact hr) boot_repr (pa_cons px pa_nil rfl) (by decide) (by decide) rfl rfl)) fun σ H Q hq => ?_
      obtain ⟨L, m, h, p, rh, rx, ec, es, v, ev, k⟩ := hq
      unfold heV at ev
      cases p with
      | none => cases ev
      | some w =>
        dsimp only at ev
        split at ev
        · rename_i y hy
          split at ev
          · rename_i hl
            cases ev
            obtain ⟨dd, u, e1, e2, e3⟩ := rx
            refine ⟨.ref a, es i rfl, rfl, ec, dd, _, u, e1, e2, by rw [hf]; simp, w, L, m, u, y, rfl, e3, hy, ?_⟩
            refine ⟨_, _, rfl, rfl, ?_, ?_⟩
            · rw [← line_eq]
              show x.toArray.size + y.toArray.size ≤ line
              simpa using hl
            · rw [strs_app]
              exact k.now rh rfl
          · cases ev
        · cases ev
    · cases h
  | .t1 b, e, h => by
    have ih := fun {e} => he_pe (a := a) (oe := oe) (cls := cls) (d := d) (pn := pn) hK hM hS hg hu hr hf T hno hi hv hn hz ho b (e := e)
    unfold chkH at h
    split at h
    · simp only [Bool.and_eq_true, Bool.not_eq_true'] at h
      refine pe_imp (pe_tup (pa_cons (ih h.2) pa_nil (star_cons h.1))) fun σ H Q hq => ?_
      obtain ⟨L, m, h, p, rh, rx, ec, es, v, ev, k⟩ := hq
      unfold heV at ev
      split at ev
      · rename_i w hw
        cases ev
        refine ⟨L, m, h, p, rh, rx, ec, es, w, hw, fun m' H' u g rh' rw' => ⟨by show 1 ≤ sizeLine; rw [sizeLine_eq]; omega, fun q hq => ?_⟩⟩
        exact okV.newT (fun m2 H2 u2 g2 => k m2 H2 u2 (g.tr rh' g2)) rh' hq ⟨rw', trivial⟩
      · cases ev
    · cases h
  | .t2 b1 b2, e, h => by
    have ih := fun {e} => he_pe (a := a) (oe := oe) (cls := cls) (d := d) (pn := pn) hK hM hS hg hu hr hf T hno hi hv hn hz ho b1 (e := e)
    have ih2 := fun {e} => he_pe (a := a) (oe := oe) (cls := cls) (d := d) (pn := pn) hK hM hS hg hu hr hf T hno hi hv hn hz ho b2 (e := e)
    unfold chkH at h
    split at h
    · simp only [Bool.and_eq_true, Bool.not_eq_true'] at h
      refine pe_imp (pe_tup (pa_cons (ih h.1.2) (pa_cons (ih2 h.2) pa_nil (star_cons h.1.1.2)) (star_cons h.1.1.1))) fun σ H Q hq => ?_
      obtain ⟨L, m, h, p, rh, rx, ec, es, v, ev, k⟩ := hq
      unfold heV at ev
      split at ev
      · rename_i w hw
        split at ev
        · rename_i w2 hw2
          cases ev
          refine ⟨L, m, h, p, rh, rx, ec, es, w, hw, fun m' H' u g rh' rw' => ⟨L, m', h, p, rh', RepX.grow rh g rx, ec, es, w2, hw2, fun m2 H2 u2 g2 rh2 rw2 => ⟨by show 2 ≤ sizeLine; rw [sizeLine_eq]; omega, fun q hq => ?_⟩⟩⟩
          exact okV.newT (fun m3 H3 u3 g3 => k m3 H3 u3 ((g.tr rh' g2).tr rh2 g3)) rh2 hq ⟨rw'.grow g2, rw2, trivial⟩
        · cases ev
      · cases ev
    · cases h
end
end Mi
set_option Elab.async false
set_option linter.all false
set_option maxRecDepth 100000
set_option maxHeartbeats 4000000
namespace Mi
open PySem PySem.Spec PyProof.Rows L2 LamX
def ExtT (H H' : Hp) : Prop := ExtN H H' ∧ ∀ b ps, H b = some (.tbl ps) → ∃ qs, H' b = some (.tbl qs)
theorem ExtT.refl (H : Hp) : ExtT H H := ⟨ExtN.refl H, fun _ ps e => ⟨ps, e⟩⟩
section
variable {X : Cx} {pins : List (Addr × Obj)} {σ : L2.St} {H : Hp} {s : Shared}
theorem lam_made {T : List (Addr × Str)} {c P : Addr} {pr : Arguments} {bd : Expr} {sc : Scope} {lp : Pos} {E Q : Value → Shared → Prop} (I : Inv X pins σ H s) (B : TabB X.base X.mg c P) (cc : X.env.code = .ref c)
    (inT : (P, X.env.qual ++ "<lambda>") ∈ T) (one : ∀ p ∈ T, p.1 = P → p.2 = X.env.qual ++ "<lambda>") (tabs : Tabs T H) (df : defaultsOf pr X.env = ([], [])) (fr : ∀ y ∈ sc.names, y.2 = .free → ∃ c, X.env.cells.lookup y.1 = some c)
    (go : ∀ (f c1 : Addr) (pm ct : Value) (G : Hp) (s1 : Shared), Inv X pins σ G s1 → ExtT H G → Tabs T G → s1.heap.get? f = some (PySem.W.kla_obj "<lambda>" (X.env.qual ++ "<lambda>") pr bd sc (cloFrom X.env.cells sc.names []) pm c1 ct) →
      G f = none → f ∉ frs X.stack → G c1 = some (CodeO c1 (X.env.qual ++ "<lambda>")) → Q (.ref f) s1) :
    wpAny (model X.prog X.w) X.A (eval (.Lambda pr bd sc lp) X.env) Q E s := by
  obtain ⟨ps, hP, tri, all⟩ := tabs _ inT
  have hP1 : s.heap.get? P = some { cls := .none, data := .fields ps } := I.hok P _ hP
  have bP := B.bm.keeps I.bk
  have notF : ∀ f, s.heap.objs.size ≤ f → f ∉ frs X.stack := fun f hf z => by
    rcases List.mem_cons.mp (I.stkSub _ z) with e | e
    · have y := I.lt
      rw [← e] at y
      exact absurd (Nat.lt_of_lt_of_le y hf) (Nat.lt_irrefl _)
    · exact I.nofs hf e
  refine PySem.W.kla_eval df ?_
  cases hc : codeAmong lp ps.toList with
  | some cv =>
    obtain ⟨c1, rfl, hco⟩ := all lp cv hc
    refine PySem.W.kla_makeFunctionHit (mg := X.mg) (c := c) (P := P) (ps := ps) (closure_ok fr) I.ok.glob (I.mod.glob.keeps I.bk) cc (B.code.keeps I.bk) hP1 tri hc bP fun ct g tk up sz => ?_
    have J : Inv X pins σ H { s with heap := g.push (PySem.W.kla_obj "<lambda>" (X.env.qual ++ "<lambda>") pr bd sc (cloFrom X.env.cells sc.names []) ((X.mg "__name__").getD .none) c1 ct), toks := tk } := I.kept fun b o e => get_push (up b o e)
    exact go g.objs.size c1 ((X.mg "__name__").getD .none) ct H _ J (ExtT.refl H) tabs (Heap.get?_push_size _ rfl) (I.hok.fresh sz) (notF _ sz) hco
  | none =>
    refine PySem.W.kla_makeFunction (mg := X.mg) (c := c) (P := P) (ps := ps) (closure_ok fr) I.ok.glob (I.mod.glob.keeps I.bk) cc (B.code.keeps I.bk) hP1 tri hc B.gP bP fun c1 ct g tk up ge lt rec tb => ?_
    obtain ⟨c2, oc, us, t, e2, ho, hd, hv⟩ := rec
    cases e2
    have sz : s.heap.objs.size ≤ g.objs.size := Nat.le_trans ge (Nat.le_of_lt lt)
    have nc : H c1 = none := I.hok.fresh ge
    have nPc : P ≠ c1 := ne_of_none hP nc
    have J := inv_table (t' := tk) (more := #[rawInt lp.line, rawInt lp.col, .ref c1]) (h' := g.push (PySem.W.kla_obj "<lambda>" (X.env.qual ++ "<lambda>") pr bd sc (cloFrom X.env.cells sc.names []) ((X.mg "__name__").getD .none) c1 ct)) I hP
      (fun b o nb e => get_push (up b o nb e)) (get_push tb) ge ⟨oc, us, t, get_push ho, hd, hv⟩
    have ext : ExtN H (upd (upd H P (.tbl (ps ++ #[rawInt lp.line, rawInt lp.col, .ref c1]))) c1 (CodeO c1 (X.env.qual ++ "<lambda>"))) := fun b o e nt => by
      have n1 : b ≠ P := fun z => by
        rw [z, hP] at e
        exact nt ps (Option.some.inj e).symm
      rw [upd_ne (ne_of_none e nc), upd_ne n1]
      exact e
    have tl : (ps ++ #[rawInt lp.line, rawInt lp.col, .ref c1]).toList = ps.toList ++ [rawInt lp.line, rawInt lp.col, .ref c1] := by simp
    refine go g.objs.size c1 ((X.mg "__name__").getD .none) ct _ _ J ⟨ext, fun b qs e => ?_⟩ (fun p hp => ?_) (Heap.get?_push_size _ rfl) ?_ (notF _ sz) upd_same
    · by_cases hb : b = P
      · exact ⟨_, by rw [hb, upd_ne nPc, upd_same]⟩
      · exact ⟨qs, by rw [upd_ne (ne_of_none e nc), upd_ne hb]; exact e⟩
    · by_cases hb : p.1 = P
      · rw [one p hp hb, hb]
        refine ⟨_, by rw [upd_ne nPc, upd_same], by rw [tl]; exact PySem.TriplesOk_snoc _ _ _ _ tri, fun q cv hq => ?_⟩
        rw [tl] at hq
        rcases among_app _ tri hq with z | z
        · obtain ⟨c0, z1, z2⟩ := all q cv z
          exact ⟨c0, z1, ext _ _ z2 codeO_ne⟩
        · exact ⟨c1, z, upd_same⟩
      · obtain ⟨qs, a1, a2, a3⟩ := tabs p hp
        refine ⟨qs, by rw [upd_ne (ne_of_none a1 nc), upd_ne hb]; exact a1, a2, fun q cv hq => ?_⟩
        obtain ⟨c0, z1, z2⟩ := a3 q cv hq
        exact ⟨c0, z1, ext _ _ z2 codeO_ne⟩
    · have n1 : g.objs.size ≠ c1 := Nat.ne_of_gt lt
      have n2 : g.objs.size ≠ P := Nat.ne_of_gt (Nat.lt_of_lt_of_le (Heap.lt_size hP1) sz)
      rw [upd_ne n1, upd_ne n2]
      exact I.hok.fresh sz
end
def tLamT (T : List (Addr × Str)) (TT : (XK → Hp → VK → Prop) → Hp → VK → Prop) (t : XK → TE) : TE := fun σ H Q => Tabs T H ∧ ∀ G, ExtT H G → Tabs T G → TT (fun E H' Q' => t E σ H' Q') G Q
theorem pe_lamT {X : Cx} {T : List (Addr × Str)} {TT : (XK → Hp → VK → Prop) → Hp → VK → Prop} {x y a : Str} {g c P : Addr} {k : Nat} {pg : Arguments} {bg : List Stmt} {sg : Scope} {dV kV doc pm cdv ct oc : Value} {an od : Option Addr} {osl : Array (Option Value)} {Ng : List Str}
    {pr : Arguments} {bd : Expr} {sc : Scope} {t : XK → TE} {p lp pos : Pos} (gl : Gl X x) (gm : X.mg x = some (.ref g)) (kp : PySem.W.keepIn X.K (.ref g) = true)
    (lk : X.K.lookup g = some ⟨oc, od, .func (PySem.W.fnOf y y pg bg sg dV kV doc pm an cdv ct), osl⟩) (cg : PySem.W.codeIn X.K cdv y = true) (hb : L2.Binds X.K (PySem.W.fnOf y y pg bg sg dV kV doc pm an cdv ct) [a] []) (Sg : FnScope Ng [a] sg) (n0 : Ng[0]? = some a) (va : Vis sg a)
    (G : GivesTo X Ng y sg g cdv bg a (X.env.qual ++ "<lambda>") TT) (B : TabB X.base X.mg c P) (cc : X.env.code = .ref c) (inT : (P, X.env.qual ++ "<lambda>") ∈ T) (one : ∀ p ∈ T, p.1 = P → p.2 = X.env.qual ++ "<lambda>") (hr : Room (k + 2) X.A) (L : LamS X.env.scope sc) (df : defaultsOf pr X.env = ([], []))
    (bi : ∀ (q : Str) (cl : List (Str × Addr)) (pm cv ctv : Value), bindArgs (PySem.W.kla_fn "<lambda>" q pr bd sc cl pm cv ctv) ⟨[], []⟩ = pure [])
    (body : ∀ (A : Around) (outer : List PySem.Env) (s : Shared) (H : Hp) (E : XK) (f c1 : Addr), Room k (A.deeper (lamEnv X sc s.heap.objs.size f c1)) → PE (lamCx X A outer s H E sc f c1) bd (t E))
    (d1 : (x == ("__debug__" : Str)) = false) (d2 : (a == ("__debug__" : Str)) = false) (d3 : (a == ("__classdict__" : Str)) = false) :
    PE X (.Call (.Name x p) [.Lambda pr bd sc lp] [] pos) (tLamT T TT t) := by
  refine ⟨fun pins s σ H Q I asked => ?_⟩
  obtain ⟨tabs, asked⟩ := asked
  refine wpAny_Call_Name_kw (ld_glob I gl gm ?_ d1)
  refine PySem.W.callWith_K (h₀ := X.base) I.ok.mod.kin kp ?_ (by rfl) (by rfl)
  show wpAny _ _ (spliced ((false, eval (.Lambda pr bd sc lp) X.env) :: backTo pos (starEach [] X.env))) _ _ s
  refine Calls.spliced_cons (lam_made I B cc inT one tabs df (L.has I.ok) fun f c1 pm1 ct1 H1 s1 I1 ex tb1 hf fn ffr hco => ?_)
  refine Calls.spliced_nil ⟨I1.kIn, wpAny_call ?_⟩
  refine codeAny_mono (run_ofS (N := Ng) (ps := [a]) (us := [.ref f]) (vs := [.ref f]) (Q := Q) (E := C8.E0) (CX := C8.CX0) lk cg Sg hr I1.env0 (hb s1 [.ref f] I1.kIn rfl) (.cons rfl .nil) rfl fun hr1 => ?_) (fun r s2 hq => ?_)
  · obtain ⟨t1, h1, q1⟩ := G f c1 s1 H1 Q (fun E H' Q' => t E σ H' Q') (fun W pn xe E p1 p2 tk hW => pe_act (i := 0) I1 L hf fn ffr (bi _ _ _ _ _) tk hW hr1 (fun A outer s H hr2 => body A outer s H E f c1 hr2) n0 va d2 d3) hco (asked H1 ex tb1)
    exact ⟨t1, h1.nox, q1⟩
  · cases r with
    | error e => exact (show False from hq).elim
    | ok fl =>
      cases fl with
      | ret u => exact I1.after hq
      | next => exact False.elim hq
      | brk => exact False.elim hq
      | cont => exact False.elim hq
end Mi
set_option Elab.async false
set_option linter.all false
set_option maxRecDepth 100000
set_option maxHeartbeats 4000000
namespace Mi
open PySem PySem.Spec PyProof.Rows L2
abbrev Xts := List (Str × Nat × Option Str)
def slotOf (N : List Str) (n : Str) : Option Nat := (List.range N.length).find? fun i => decide (N[i]? = some n)
theorem slotOf_at {N : List Str} {n : Str} {i : Nat} (h : slotOf N n = some i) : N[i]? = some n := by
  unfold slotOf at h
  exact of_decide_eq_true (List.find?_some (p := fun i => decide (N[i]? = some n)) h)
def chkHs (E : Xts) (S : Sc) : List (Nat × HE) → List ExceptHandler → Bool
  | [], [] => true
  | (c, he) :: r, .ExceptHandler (some (.Name x _)) nm [.Return (some e) _] _ :: l => glB S x && okNm x && (match E.lookup x with
      | some (d, f) => decide (c = d) && (match nm with
        | none => chkH S none "" he e
        | some n => match f with
          | some fl => plB S n && okNm n && (slotOf S.N n).isSome && chkH S (some n) fl he e
          | none => false)
      | none => false) && chkHs E S r l
  | _, _ => false
def InX (E : Xts) (c : Nat) : Prop := ∃ x f, E.lookup x = some (c, f)
structure ExK (Γ : Gm) (E : Xts) : Prop where
  nm : ∀ x c f, E.lookup x = some (c, f) → Γ.mg x = some (.ref (Γ.xa c))
  fl : ∀ x c f, E.lookup x = some (c, some f) → f = Γ.xf c ∧ XfC Γ.K (Γ.xa c) ∧ PySem.W.findIn Γ.K (.ref (Γ.xa c)) f = some none
  ex : ∀ c d, InX E c → InX E d → PySem.W.exmOne Γ.K (.ref (Γ.xa c)) (.ref (Γ.xa d)) = some (decide (c = d))
def tH0 (Γ : Gm) (he : HE) : TE := fun σ H Q => ∃ L m h p, RepH Γ L m h H ∧ ∃ v, heV he p = some v ∧ okV Γ L m H h v Q
theorem he_pe0 {X : Cx} {Γ : Gm} {S : Sc} {f : Str} : ∀ (he : HE) {e : Expr}, chkH S none f he e = true → PE X e (tH0 Γ he)
  | .s x, e, h => by
    unfold chkH at h
    split at h
    · cases of_decide_eq_true h
      refine pe_imp pe_str fun σ H Q hq => ?_
      obtain ⟨L, m, h, p, rh, v, ev, k⟩ := hq
      cases ev
      exact k.now rh rfl
    · cases h
  | .p, e, h => by
    unfold chkH at h
    split at h
    · simp at h
    · cases h
  | .r x, e, h => by
    unfold chkH at h
    split at h
    · simp at h
    · cases h
  | .t1 b, e, h => by
    have ih := fun {e} => he_pe0 (X := X) (Γ := Γ) (S := S) (f := f) b (e := e)
    unfold chkH at h
    split at h
    · simp only [Bool.and_eq_true, Bool.not_eq_true'] at h
      refine pe_imp (pe_tup (pa_cons (ih h.2) pa_nil (star_cons h.1))) fun σ H Q hq => ?_
      obtain ⟨L, m, h, p, rh, v, ev, k⟩ := hq
      unfold heV at ev
      split at ev
      · rename_i w hw
        cases ev
        refine ⟨L, m, h, p, rh, w, hw, fun m' H' u g rh' rw' => ⟨by show 1 ≤ sizeLine; rw [sizeLine_eq]; omega, fun q hq => ?_⟩⟩
        exact okV.newT (fun m2 H2 u2 g2 => k m2 H2 u2 (g.tr rh' g2)) rh' hq ⟨rw', trivial⟩
      · cases ev
    · cases h
  | .t2 b1 b2, e, h => by
    have ih := fun {e} => he_pe0 (X := X) (Γ := Γ) (S := S) (f := f) b1 (e := e)
    have ih2 := fun {e} => he_pe0 (X := X) (Γ := Γ) (S := S) (f := f) b2 (e := e)
    unfold chkH at h
    split at h
    · simp only [Bool.and_eq_true, Bool.not_eq_true'] at h
      refine pe_imp (pe_tup (pa_cons (ih h.1.2) (pa_cons (ih2 h.2) pa_nil (star_cons h.1.1.2)) (star_cons h.1.1.1))) fun σ H Q hq => ?_
      obtain ⟨L, m, h, p, rh, v, ev, k⟩ := hq
      unfold heV at ev
      split at ev
      · rename_i w hw
        split at ev
        · rename_i w2 hw2
          cases ev
          refine ⟨L, m, h, p, rh, w, hw, fun m' H' u g rh' rw' => ⟨L, m', h, p, rh', w2, hw2, fun m2 H2 u2 g2 rh2 rw2 => ⟨by show 2 ≤ sizeLine; rw [sizeLine_eq]; omega, fun q hq => ?_⟩⟩⟩
          exact okV.newT (fun m3 H3 u3 g3 => k m3 H3 u3 ((g.tr rh' g2).tr rh2 g3)) rh2 hq ⟨rw'.grow g2, rw2, trivial⟩
        · cases ev
      · cases ev
    · cases h
def clsL (Γ : Gm) (N : List Str) : List (Nat × HE) → List ExceptHandler → List Cl
  | (c, he) :: r, .ExceptHandler _ nm _ _ :: l => (.ref (Γ.xa c), nm.bind (slotOf N), fun a cls d => tRet (tH Γ c a (nm.bind (slotOf N)) cls d he)) :: clsL Γ N r l
  | _, _ => []
section
variable {X : Cx} {Γ : Gm} {E : Xts} {S : Sc}
theorem hds_ok (hK : X.K = Γ.K) (hM : X.mg = Γ.mg) (hN : X.N = S.N) (hS : X.env.scope = S.sc) (hg : X.A.guards = some []) (hu : X.A.units + 64 < cLine) (hr : Γ.mg "repr" = none) (EK : ExK Γ E) :
    ∀ (hs : List (Nat × HE)) (l : List ExceptHandler), chkHs E S hs l = true → HdsMix X l (clsL Γ S.N hs l)
  | [], [], _ => .nil
  | [], _ :: _, h => by unfold chkHs at h; cases h
  | _ :: _, [], h => by unfold chkHs at h; cases h
  | (c, he) :: r, hd :: l, h => by
    have ih := hds_ok hK hM hN hS hg hu hr EK r l
    unfold chkHs at h
    split at h
    · rename_i h0 _
      cases h0
    · rename_i c' he' r' x px nm e pr ph l' e1 e2
      cases e1
      cases e2
      simp only [Bool.and_eq_true] at h
      obtain ⟨⟨⟨h1, h2⟩, h3⟩, h4⟩ := h
      split at h3
      · rename_i d f hx
        simp only [Bool.and_eq_true] at h3
        obtain ⟨h5, h6⟩ := h3
        have h5 := of_decide_eq_true h5
        subst h5
        have gx : Gl X x := by
          unfold glB at h1
          split at h1
          · rename_i q
            show X.env.scope.names.lookup _ = _
            rw [hS]
            exact q
          · cases h1
        have nm1 : Names X x (.ref (Γ.xa c)) := ⟨gx, (nm_of' h2).1, .inl (by rw [hM]; exact EK.nm _ _ _ hx)⟩
        cases nm with
        | none =>
          refine .cons nm1 (fun a o cls d pn z1 z2 => pss_one (ps_ret (pe_imp (he_pe0 (Γ := Γ) he h6) fun σ H Q hq => ?_))) (ih h4)
          obtain ⟨L, m, h, p, rh, _, _, _, v, ev, k⟩ := hq
          exact ⟨L, m, h, p, rh, v, ev, k⟩
        | some n =>
          dsimp only at h6
          cases f with
          | none => cases h6
          | some fl =>
            simp only [Bool.and_eq_true] at h6
            obtain ⟨⟨⟨a1, a2⟩, a3⟩, a4⟩ := h6
            obtain ⟨i, hi⟩ := Option.isSome_iff_exists.mp a3
            obtain ⟨f1, f2, f3⟩ := EK.fl _ _ _ hx
            have loc : X.env.scope.names.lookup n = some .local := by
              unfold plB at a1
              rw [← hS] at a1
              split at a1
              · rename_i q; exact q
              · cases a1
            have hi' : X.N[i]? = some n := by rw [hN]; exact slotOf_at hi
            have sl : (some n).bind (slotOf S.N) = some i := hi
            show HdsMix X _ ((_, (some n).bind (slotOf S.N), _) :: _)
            rw [sl]
            exact .consA nm1 hi' loc (fun a o cls d pn z1 z2 => pss_one (ps_ret (he_pe hK hM hS hg hu hr f1 f2 f3 hi' (.inl loc) a2 z1 z2 he a4))) (ih h4)
      · cases h3
    · cases h
theorem hs_in : ∀ {hs : List (Nat × HE)} {l : List ExceptHandler} {c : Nat} {p : Option Vl} {v : Vl}, chkHs E S hs l = true → hsV hs c p = some v → InX E c
  | [], _, _, _, _, _, e => by cases e
  | _ :: _, [], _, _, _, h, _ => by unfold chkHs at h; cases h
  | (d, he) :: r, hd :: l, c, p, v, h, e => by
    unfold chkHs at h
    split at h
    · rename_i h0 _
      cases h0
    · rename_i c' he' r' x px nm e0 pr ph l' e1 e2
      cases e1
      cases e2
      simp only [Bool.and_eq_true] at h
      obtain ⟨⟨_, h3⟩, h4⟩ := h
      split at h3
      · rename_i d' f hx
        simp only [Bool.and_eq_true] at h3
        have h5 := of_decide_eq_true h3.1
        subst h5
        unfold hsV at e
        split at e
        · rename_i q
          rw [of_decide_eq_true q]
          exact ⟨_, _, hx⟩
        · exact hs_in h4 e
      · cases h3
    · cases h
theorem hds_wish (EK : ExK Γ E) {L m : List Addr} {h : Hh} {H : Hp} {c : Nat} {p : Option Vl} {d : Option Addr} {v : Vl} {D : Ends} {Wo : WX} {σ : L2.St} (rh : RepH Γ L m h H) (rx : RepX Γ L m H c p d) (ic : InX E c) (k : okV Γ L m H h v D.rt) :
    ∀ (hs : List (Nat × HE)) (l : List ExceptHandler), chkHs E S hs l = true → hsV hs c p = some v → wMix Γ.K S.N.length Wo D (clsL Γ S.N hs l) (.ref (Γ.xa c)) d σ H
  | [], _, _, e => by cases e
  | _ :: _, [], h, _ => by unfold chkHs at h; cases h
  | (d1, he) :: r, hd :: l, h, e => by
    have ih := hds_wish EK rh rx ic k (Wo := Wo) (σ := σ) r l
    unfold chkHs at h
    split at h
    · rename_i h0 _
      cases h0
    · rename_i c' he' r' x px nm e0 pr ph l' e1 e2
      cases e1
      cases e2
      simp only [Bool.and_eq_true] at h
      obtain ⟨⟨_, h3⟩, h4⟩ := h
      split at h3
      · rename_i d' f hx
        simp only [Bool.and_eq_true] at h3
        have h5 := of_decide_eq_true h3.1
        subst h5
        refine ⟨decide (c = d1), EK.ex _ _ ic ⟨_, _, hx⟩, fun hb a na hl => ?_, fun hb => ih h4 (by unfold hsV at e; rw [hb] at e; exact e)⟩
        have ec := of_decide_eq_true hb
        subst ec
        have ev : heV he p = some v := by
          unfold hsV at e
          rw [decide_eq_true rfl] at e
          exact e
        cases hsl : nm.bind (slotOf S.N) with
        | none => exact ⟨L, m, h, p, rh, rx, rfl, (fun i z => by cases z), v, ev, k⟩
        | some i =>
          refine ⟨L, m, h, p, rh, rx, rfl, fun j z => ?_, v, ev, k⟩
          cases z
          rw [List.getElem?_set_self]
          rw [hl]
          cases nm with
          | none => cases hsl
          | some n => exact (List.getElem?_eq_some_iff.mp (slotOf_at hsl)).1
      · cases h3
    · cases h
end
def chkMet (E : Xts) (M : Mt) (N : List Str) (sc : Scope) (a : Str) (body : List Stmt) : Bool := match body with
  | [.Try [.Expr (.Call (.Name b _) [] [] _) _] (h :: hs) [] [] _, .Return (some e) _] => decide (b = a) && decide (N[0]? = some a) && plB (Sc.top N sc) a && okNm a && chkHs E (Sc.top N sc) M.hs (h :: hs) && chkH (Sc.top N sc) none "" M.fine e
  | _ => false
def TTm (Γ : Gm) (M : Mt) : (XK → Hp → VK → Prop) → Hp → VK → Prop := fun tl H Q =>
  tl (fun cls d G => ∃ c p L m h v, cls = .ref (Γ.xa c) ∧ RepH Γ L m h G ∧ RepX Γ L m G c p d ∧ hsV M.hs c p = some v ∧ okV Γ L m G h v Q) H (fun _ G => ∃ L m h p, RepH Γ L m h G ∧ ∃ v, heV M.fine p = some v ∧ okV Γ L m G h v Q)
theorem met_gives {X : Cx} {Γ : Gm} {E : Xts} {k : Nat} {N : List Str} {x a q : Str} {sg : Scope} {g : Addr} {cd : Value} {bg : List Stmt} {M : Mt} (hK : X.K = Γ.K) (hM : X.mg = Γ.mg) (hg : X.A.guards = some []) (hr : Room (k + 1) X.A) (hrp : Γ.mg "repr" = none) (EK : ExK Γ E) (S : FnScope N [a] sg)
    (h : chkMet E M N sg a bg = true) : LamX.GivesTo X N x sg g cd bg a q (TTm Γ M) := by
  unfold chkMet at h
  split at h
  · rename_i b pb pc pe h1 hs pt e pr
    simp only [Bool.and_eq_true] at h
    obtain ⟨⟨⟨⟨⟨a1, a2⟩, a3⟩, a4⟩, a5⟩, a6⟩ := h
    have a1 := of_decide_eq_true a1
    subst a1
    intro f c1 s H Q tl act hc asked
    let Y : Cx := (cxOf C8.CX0 X.prog X.w X.K X.mg X.base N x sg g cd X.A X.stack s H C8.E0).nox
    have hY := hds_ok (X := Y) (S := (Sc.top N sg)) hK hM rfl rfl hg (hr.deeper _).units hrp EK M.hs (h1 :: hs) a5
    have hN0 : 0 < N.length := (List.getElem?_eq_some_iff.mp (of_decide_eq_true a2)).1
    refine ⟨_, pss_cons (ps_tryM (X := Y) (Wo := fun _ _ _ _ => False) (tb := fun W D σ H => ∃ Ech : XK, (∀ cls d σ' H', Ech cls d H' → W cls d σ' H') ∧ σ[0]? = some (some (.ref f)) ∧ H c1 = some (LamX.CodeO c1 q) ∧ tl Ech H (fun _ H' => D.nx σ H'))
      rfl rfl S.nd LamX.takes0 (fun W pn xe tk _ => ?_) hY) (pss_one (ps_ret (he_pe0 (Γ := Γ) M.fine a6))), ?_⟩
    · refine ⟨fun pins s' σ H' D I h' => ?_⟩
      obtain ⟨Ech, hW, b1, b2, b3⟩ := h'
      exact (pss_one (ps_expr (act W pn xe Ech _ _ tk hW))).run pins s' σ H' D I ⟨b1, b2, b3⟩
    · refine ⟨_, fun cls d σ' H' hE => ?_, rfl, hc, asked⟩
      obtain ⟨c, p, L, m, h, v, rfl, rh, rx, ev, k⟩ := hE
      show wMix X.K _ _ _ _ _ _ _ _
      rw [hK]
      refine hds_wish EK rh rx (hs_in a5 ev) ?_ M.hs (h1 :: hs) a5 ev
      exact k
  · cases h
end Mi
set_option Elab.async false
set_option linter.all false
set_option maxRecDepth 100000
set_option maxHeartbeats 4000000
namespace Mi
open PySem PySem.Spec PyProof.Rows L2 LamX
section
variable {Γ : Gm} {L m : List Addr} {H G : Hp} {h : Hh}
theorem ExtT.grow (e : ExtT H G) (m : List Addr) : Grow m H m G := ⟨⟨[], by simp, fun _ z => nomatch z⟩, fun a o z _ n => e.1 a o z n, fun a us z => e.1 _ _ z (fun _ y => nomatch y), fun a o u z => e.1 _ _ z (fun _ y => nomatch y), fun a x z => e.1 _ _ z (fun _ y => nomatch y), e.2⟩
theorem RepH.ext (r : RepH Γ L m h H) (e : ExtT H G) (t : Tabs Γ.tabs G) : RepH Γ L m h G where
  len := r.len
  nd := r.nd
  ap := r.ap
  ob := fun i a o e1 e2 => by
    have x := r.ob i a o e1 e2
    obtain ⟨u, hu, _, _, _, n4, _⟩ := x.there
    exact x.grow (e.grow m) (by rw [hu]; exact e.1 _ _ hu n4)
  res := fun a ha => by
    obtain ⟨us, q⟩ := r.res a ha
    exact ⟨us, e.1 _ _ q fun _ y => nomatch y⟩
  tb := t
end
structure MetOk (Γ : Gm) (E : Xts) (f : Nat) (M : Mt) : Prop where
  ex : ∃ x a st fd N, Fun Γ.K x x st (Γ.fa f) fd ∧ FnScope N [a] (defScope st) ∧ Binds Γ.K fd [a] [] ∧ chkMet E M N (defScope st) a (defBody st) = true
structure LmOk (X : Cx) (Γ : Gm) (k : Nat) : Prop where
  hr : Room (k + 2) X.A
  tb : ∃ c P, TabB X.base X.mg c P ∧ X.env.code = .ref c ∧ (P, X.env.qual ++ "<lambda>") ∈ Γ.tabs ∧ ∀ p ∈ Γ.tabs, p.1 = P → p.2 = X.env.qual ++ "<lambda>"
theorem noPar_eq {p : Arguments} (h : noPar p = true) : p = ⟨[], [], none, [], [], none, []⟩ := by
  obtain ⟨a, b, c, d, e, f, g⟩ := p
  unfold noPar at h
  simp only [Bool.and_eq_true, List.isEmpty_iff, Option.isNone_iff_eq_none] at h
  obtain ⟨⟨⟨⟨⟨⟨h1, h2⟩, h3⟩, h4⟩, h5⟩, h6⟩, h7⟩ := h
  subst h1 h2 h3 h4 h5 h6 h7
  rfl
section
variable {X : Cx} {Γ : Gm} {W : WX} {k : Nat}
theorem s_dz {pos : Pos} : PE X (.Dict [] [] pos) (tE Γ W fun _ h => .ok (.dct []) h) := by
  refine pe_imp pe_dnewK fun σ H Q hq => ?_
  obtain ⟨L, m, h, env, rh, re, k⟩ := hq
  intro p hp
  exact okV.new k rh hp ⟨rfl, p, rfl, upd_same, (rh.out hp).1, (rh.out hp).2⟩
def reprR (x : Vl) (h : Hh) : R Vl := match reprV x with
  | some y => .ok (.str y) h
  | none => .bad
theorem s_rpr {a : Expr} {ea : Env → Hh → R Vl} {p pos : Pos} (C : Cn X Γ W) (hg : X.A.guards = some []) (hm : Γ.mg "repr" = none) (gl : Gl X "repr") (ha : PE X a (tE Γ W ea)) (hst : isStar a = false) : PE X (.Call (.Name "repr" p) [a] [] pos) (tE Γ W fun env h => bnd (ea env h) reprR) := by
  refine pe_imp (pe_callB (cb_repr (Γ := Γ) C.K hg C.un) gl (by rw [C.mg]; exact hm) boot_repr (pa_cons ha pa_nil (star_cons hst)) (by decide) (by decide) (star_cons hst) rfl) fun σ H Q hq => ?_
  obtain ⟨L, m, h, env, rh, re, k⟩ := hq
  refine ⟨L, m, h, env, rh, re, k.bind fun m1 H1 x h1 u g1 rh1 rx k1 => ?_⟩
  unfold reprR at k1
  split at k1
  · rename_i y hy
    exact ⟨x, L, m1, u, y, rfl, rx, hy, k1 m1 H1 _ (Grow.refl _ _) rh1 rfl⟩
  · exact k1.elim
theorem s_lamc {E : Xts} {M : Mt} {f : Nat} {x : Str} {pr : Arguments} {bd : Expr} {sc : Scope} {eb : Env → Hh → R Vl} {p lp pos : Pos} (C : Cn X Γ W) (hg : X.A.guards = some []) (hrp : Γ.mg "repr" = none) (EK : ExK Γ E) (MK : MetOk Γ E f M) (kp : PySem.W.keepIn Γ.K (.ref (Γ.fa f)) = true) (LM : LmOk X Γ k) (gl : Gl X x) (gm : Γ.mg x = some (.ref (Γ.fa f))) (d1 : (x == ("__debug__" : Str)) = false)
    (np : noPar pr = true) (L : LamS X.env.scope sc) (body : ∀ (A : Around) (outer : List PySem.Env) (s : Shared) (H : Hp) (E : XK) (f c1 : Addr), Room k (A.deeper (lamEnv X sc s.heap.objs.size f c1)) → PE (lamCx X A outer s H E sc f c1) bd (tE Γ (fun cls d _ H => E cls d H) eb)) :
    PE X (.Call (.Name x p) [.Lambda pr bd sc lp] [] pos) (tE Γ W fun env h => metR M h.length (eb env h)) := by
  obtain ⟨y, a, st, fd, N, F, S, hb, hc⟩ := MK.ex
  obtain ⟨oc, od, kV, doc, pm, an, cdv, ct, osl, rfl, lk, hcd⟩ := F.ex
  obtain ⟨c, P, B, cc, inT, one⟩ := LM.tb
  have npe := noPar_eq np
  subst npe
  obtain ⟨n0, va, d2, d3⟩ : N[0]? = some a ∧ Vis (defScope st) a ∧ (a == ("__debug__" : Str)) = false ∧ (a == ("__classdict__" : Str)) = false := by
    unfold chkMet at hc
    split at hc
    · simp only [Bool.and_eq_true] at hc
      obtain ⟨⟨⟨⟨⟨a1, a2⟩, a3⟩, a4⟩, a5⟩, a6⟩ := hc
      refine ⟨of_decide_eq_true a2, ?_, nm_of' a4⟩
      unfold plB at a3
      split at a3
      · rename_i q
        exact .inl q
      · cases a3
    · cases hc
  refine pe_imp (pe_lamT (T := Γ.tabs) (t := fun E => tE Γ (fun cls d _ H => E cls d H) eb) gl (by rw [C.mg]; exact gm) (by rw [C.K]; exact kp) (by rw [C.K]; exact lk) (by rw [C.K]; exact hcd) (by rw [C.K]; exact hb) S n0 va
    (met_gives (k := k + 1) C.K C.mg hg LM.hr hrp EK S hc) B cc inT one LM.hr L rfl (fun _ _ _ _ _ => rfl) body d1 d2 d3) fun σ H Q hq => ?_
  obtain ⟨L', m, h, env, rh, re, kk⟩ := hq
  replace kk : okG Γ W L' m H σ (fun m' H' => RepV Γ L' m' H') (metR M h.length (eb env h)) Q := kk
  refine ⟨rh.tb, fun G ex tb => ?_⟩
  have g := ex.grow m
  have rg := rh.ext ex tb
  refine ⟨L', m, h, env, rg, re.grow g, ?_⟩
  cases hev : eb env h with
  | bad =>
    rw [hev] at kk
    exact kk.elim
  | ok v h' =>
    rw [hev] at kk
    intro m' H' u g' rh' rv
    unfold metR finO at kk
    dsimp only at kk
    split at kk
    · rename_i z hz
      exact ⟨L', m', h', none, rh', z, hz, fun m2 H2 u2 g2 rh2 rv2 => fin_ok rh rfl kk m2 H2 u2 ((g.tr rg g').tr rh' g2) rh2 rv2⟩
    · exact kk.elim
  | exc c0 p0 h' =>
    rw [hev] at kk
    intro m' H' d' g' rh' rx
    unfold metR finO at kk
    dsimp only at kk
    split at kk
    · rename_i z hz
      exact ⟨c0, p0, L', m', h', z, rfl, rh', rx, hz, fun m2 H2 u2 g2 rh2 rv2 => fin_ok rh rfl kk m2 H2 u2 ((g.tr rg g').tr rh' g2) rh2 rv2⟩
    · exact kk.elim
def ExMk (Γ : Gm) (c : Nat) : Option Str → Prop
  | some f => f = Γ.xf c ∧ Γ.mg "super" = none ∧ ∃ fI B newId initId bmB sf ga, SupK Γ.P Γ.K (Γ.xa c) fI B newId initId bmB sf ga f
  | none => ∃ B newId initId bmB, ExcBaseFacts B newId initId bmB ∧ PySem.W.excIn Γ.K (Γ.xa c) bmB newId = true ∧ PySem.W.keepIn Γ.K (.ref (Γ.xa c)) = true ∧ PySem.W.subIn Γ.K (.ref (Γ.xa c)) (.type "BaseException") = some true ∧ PySem.W.typeIn Γ.K (.ref (Γ.xa c)) = some (.type "type")
theorem s_raiseK {c : Nat} {f x : Str} {a : Expr} {ea : Env → Hh → R Vl} {p p2 pos : Pos} (C : Cn X Γ W) (hr : Room (k + 1) X.A) (E : ExMk Γ c (some f)) (gl : Gl X x) (hm : Γ.mg x = some (.ref (Γ.xa c))) (d1 : (x == ("__debug__" : Str)) = false) (ha : PE X a (tE Γ W ea)) (hst : isStar a = false) :
    PS X (.Raise (some (.Call (.Name x p) [a] [] p2)) none pos) (tS Γ W fun env h => bnd (ea env h) fun v h => .exc c (some v) h) := by
  obtain ⟨ef, hs, fI, B, newId, initId, bmB, sf, ga, T⟩ := E
  refine ps_imp (ps_raise C.calm C.tk (pmk_sup (by rw [C.prog, C.K]; exact T) gl (by rw [C.mg]; exact hm) (by rw [C.mg]; exact hs) hr ha d1 (star_cons hst))) fun D σ H hq => ?_
  obtain ⟨L, m, h, env, rh, re, kk⟩ := hq
  refine ⟨L, m, h, env, rh, re, okS.bind kk fun m1 H1 v h1 u g1 rh1 rv k1 d hd => ?_⟩
  exact k1 m1 _ (some d) σ (Grow.fresh hd) (rh1.fresh hd) ⟨d, u, rfl, by rw [upd_same, ef], rv.grow (Grow.fresh hd)⟩
theorem s_raiseM {c : Nat} {x m : Str} {j : Nat} {p p2 p3 pos : Pos} (C : Cn X Γ W) (E : ExMk Γ c none) (gl : Gl X x) (hm : Γ.mg x = some (.ref (Γ.xa c))) (d1 : (x == ("__debug__" : Str)) = false) :
    PS X (.Raise (some (.Call (.Name x p) [.Constant (.str m) j p2] [] p3)) none pos) (tS Γ W fun _ h => .exc c none h) := by
  obtain ⟨B, newId, initId, bmB, F, q, kc, sb, ty⟩ := E
  refine ps_imp (ps_raise C.calm C.tk (pmk_own F (by rw [C.K]; exact q) (by rw [C.mg]; exact hm) (by rw [C.K]; exact kc) (raises_own (by rw [C.K]; exact sb) (by rw [C.K]; exact ty)) gl d1)) fun D σ H hq => ?_
  obtain ⟨L, m, h, env, rh, re, kk⟩ := hq
  exact kk m H none σ (Grow.refl m H) rh trivial
end
structure FnGk (P : Program) (w : World) (K : PySem.W.Frag) (mg : Str → Option Value) (base : Heap) (CX : CXT) (k : Nat) (f : Addr) (fd : FuncData) (ps : List Str) (sp : Sp) : Prop where
  len : ∀ vs H Q E, sp vs H Q E → vs.length = ps.length
  run : ∀ (A : Around) (outer : List PySem.Env) (s : Shared) (H : Hp) (args : Args) (us : List Value) (vs : List V) (Q : VK) (E : XK), A.guards = some [] → Room k A → Env0 P w K mg base A outer s H → BindsTo s fd args (ps.zip us) → Vals vs us → sp vs H Q E →
    codeAny (model P w) A (.call (.ref f) args) (CR CX outer P w H s Q E) s
structure FnJ (Γ : Gm) (cf : CF) (k : Nat) (f : Nat) : Prop where
  kp : PySem.W.keepIn Γ.K (.ref (Γ.fa f)) = true
  ok : ∃ fd ps, FnGk Γ.P Γ.w Γ.K Γ.mg Γ.base (L2.CX Γ.P Γ.w) k (Γ.fa f) fd ps (spC Γ cf f) ∧ Binds Γ.K fd ps []
section
variable {X : Cx} {Γ : Gm} {W : WX} {cf : CF} {k : Nat} {f : Nat} {x : Str} {p pos : Pos} {e : Expr} {es : List Expr} {el : Env → Hh → R (List Vl)}
theorem run_g (C : Cn X Γ W) (F : FnJ Γ cf k f) (hg : X.A.guards = some []) (hr : Room k X.A) {pins : List (Addr × Obj)} {σ : L2.St} {H : Hp} {s : Shared} {Q : VK} {us : List Value} {vs : List V} {L m : List Addr} {h : Hh} {args : List Vl} (I : Inv X pins σ H s) (r : Vals vs us)
    (rh : RepH Γ L m h H) (ra : RepL Γ L m H args vs) (kk : okG Γ W L m H σ (fun m' H' => RepV Γ L m' H') (cf f args h) Q) : wpAny (model X.prog X.w) X.A (call (.ref (Γ.fa f)) us) (EP X pins σ Q) X.xe s := by
  obtain ⟨fd, ps, F', hb⟩ := F.ok
  rw [← C.prog, ← C.w, ← C.K, ← C.mg, ← C.base] at F'
  rw [← C.K] at hb
  have asks : spC Γ cf f vs H Q (WE W σ) := ⟨L, m, h, args, rh, ra, kk.at⟩
  have hl : us.length = ps.length := by rw [← r.length]; exact F'.len _ _ _ _ asks
  have b := hb s us I.kIn (by rw [List.append_nil]; exact hl)
  rw [List.append_nil] at b
  refine wpAny_call (codeAny_mono (F'.run X.A X.stack s H ⟨us, []⟩ us vs Q (WE W σ) hg hr I.env0 b r asks) fun r1 s1 hq => ?_)
  cases r1 with
  | error e1 => exact passAt C.tk σ pins H s e1 s1 I hq
  | ok fl =>
    cases fl with
    | ret u => exact I.after hq
    | next => exact hq.elim
    | brk => exact hq.elim
    | cont => exact hq.elim
theorem s_callg0 (C : Cn X Γ W) (F : FnJ Γ cf k f) (hg : X.A.guards = some []) (hr : Room k X.A) (gl : Gl X x) (hm : Γ.mg x = some (.ref (Γ.fa f))) (d1 : (x == ("__debug__" : Str)) = false) :
    PE X (.Call (.Name x p) [] [] pos) (tE Γ W fun env h => cf f [] h) := by
  have hk := F.kp
  rw [← C.K] at hk
  rw [← C.mg] at hm
  refine ⟨fun pins s σ H Q I hq => ?_⟩
  obtain ⟨L, m, h, env, rh, re, kk⟩ := hq
  refine wpAny_Call_Name_kw (ld_glob I gl hm ?_ d1)
  exact PySem.W.callWith_K0 I.kIn hk (run_g (us := []) (vs := []) (args := []) C F hg hr I .nil rh trivial kk)
theorem s_callg (C : Cn X Γ W) (F : FnJ Γ cf k f) (hg : X.A.guards = some []) (hr : Room k X.A) (gl : Gl X x) (hm : Γ.mg x = some (.ref (Γ.fa f))) (d1 : (x == ("__debug__" : Str)) = false) (ha : PA X (e :: es) (tL Γ W el)) (hst : noStars (e :: es) = true) :
    PE X (.Call (.Name x p) (e :: es) [] pos) (tE Γ W fun env h => bnd (el env h) fun xs h => cf f xs h) := by
  have hk := F.kp
  rw [← C.K] at hk
  rw [← C.mg] at hm
  obtain ⟨h1, h2⟩ := noStars_cons hst
  refine ⟨fun pins s σ H Q I hq => ?_⟩
  obtain ⟨L, m, h, env, rh, re, kk⟩ := hq
  refine wpAny_Call_Name_kw (ld_glob I gl hm ?_ d1)
  refine PySem.W.callWith_K (h₀ := X.base) I.ok.mod.kin hk (thn (ha.run pos pins s σ H (fun vs H1 => ∃ L m h args, RepH Γ L m h H1 ∧ RepL Γ L m H1 args vs ∧ okG Γ W L m H1 σ (fun m' H' => RepV Γ L m' H') (cf f args h) Q) I ⟨L, m, h, env, rh, re, kk.bind fun m1 H1 xs h1 us g1 rh1 rx k1 => ⟨L, m1, h1, xs, rh1, rx, k1⟩⟩) fun us s1 z => ?_) (star_cons h1) (noStars_any h2)
  obtain ⟨vs, H1, I1, r, L', m', h', args, a1, a2, a3⟩ := z
  exact ⟨I1.kIn, run_g C F hg hr I1 r a1 a2 a3⟩
end
end Mi
set_option Elab.async false
set_option linter.all false
set_option maxRecDepth 100000
set_option maxHeartbeats 4000000
namespace Mi
open PySem PySem.Spec PyProof.Rows L2
structure Cs (X : Cx) (Γ : Gm) (W : WX) (k : Nat) (S : Sc) : Prop where
  c : Cn X Γ W
  N : X.N = S.N
  sc : X.env.scope = S.sc
  fn : ∀ x, X.fn x = S.fnB x
  hr : Room k X.A
  gd : S.gd = true → X.A.guards = some []
  lg : S.lm = true → S.gd = true
  lm : S.lm = true → LmOk X Γ k
def bNames : List Str := ["len", "abs", "max", "min", "int", "tuple", "sum", "all", "any", "list", "sorted", "range", "enumerate", "zip", "isinstance", "bool", "str", "repr", "super"]
structure Lv (Γ : Gm) (G : GT) (D : Nm) (cf : CF) (k : Nat) : Prop where
  fn : ∀ x f, D.fns.lookup x = some f → Γ.mg x = some (.ref (Γ.fa f))
  fi : ∀ f, FnI Γ cf k f
  gv : ∀ x g, D.gvs.lookup x = some g → ∃ v u w, G.gv g = some v ∧ Γ.mg x = some w ∧ RelV u w ∧ ∀ L m H, RepV Γ L m H v u
  nb : ∀ x, x ∈ bNames → Γ.mg x = none
  ow : ∀ c, Γ.cok c = true → OwnOk Γ c
  fj : ∀ f, FnI Γ cf (k - 1) f
  k1 : 1 ≤ k
  kl : Kl Γ G D.ats
  ke : ∀ c, Γ.cok c = true → KlEq Γ G c
  km : ∀ x c, D.cls.lookup x = some c → Γ.mg x = some (.ref (Γ.ca c)) ∧ PySem.W.keepIn Γ.K (.ref (Γ.ca c)) = true ∧ KlMk Γ G c ∧ KlIs Γ c
  ek : ExK Γ D.exs
  xm : ∀ x c f, D.exs.lookup x = some (c, f) → ExMk Γ c f ∧ G.exk c = some f.isSome
  mt : ∀ f M, G.met f = some M → MetOk Γ D.exs f M ∧ PySem.W.keepIn Γ.K (.ref (Γ.fa f)) = true
  fg : ∀ f, FnJ Γ G.cg k f
  fgn : ∀ x f, D.fng.lookup x = some f → Γ.mg x = some (.ref (Γ.fa f))
section
variable {X : Cx} {Γ : Gm} {W : WX} {k : Nat} {S : Sc} {x : Str} {i : Nat}
theorem vis_of (C : Cs X Γ W k S) (h : visB S x = true) : Vis X.env.scope x := by
  unfold visB at h
  rw [← C.sc] at h
  unfold Vis
  split at h
  · rename_i e; exact .inl e
  · rename_i e; exact .inr (.inl e)
  · rename_i e; exact .inr (.inr e)
  · cases h
theorem loc_of (C : Cs X Γ W k S) (h : locB S x = true) : Loc X.env.scope x ∧ (X.fn x = true ∨ X.env.scope.names.lookup x = some .local) := by
  unfold locB at h
  rw [← C.sc] at h
  split at h
  · rename_i e; exact ⟨.inl e, .inr e⟩
  · rename_i e; exact ⟨.inr e, .inl (by rw [C.fn]; exact h)⟩
  · cases h
theorem gl_of (C : Cs X Γ W k S) (h : glB S x = true) : Gl X x := by
  unfold glB at h
  rw [← C.sc] at h
  split at h
  · rename_i e; exact e
  · cases h
theorem pl_of (C : Cs X Γ W k S) (h : plB S x = true) : X.env.scope.names.lookup x = some .local := by
  unfold plB at h
  rw [← C.sc] at h
  split at h
  · rename_i e; exact e
  · cases h
theorem sl_of (C : Cs X Γ W k S) (h : slB S i x = true) : X.N[i]? = some x := by
  rw [C.N]
  exact of_decide_eq_true h
theorem nm_of (h : okNm x = true) : (x == ("__debug__" : Str)) = false ∧ (x == ("__classdict__" : Str)) = false := by
  unfold okNm at h
  simp only [Bool.and_eq_true, Bool.not_eq_true'] at h
  exact h
theorem Cs.blk (C : Cs X Γ W k S) (scope : Scope) (s : Shared) (H : Hp) (A : Addr) (cl : List (Str × Addr)) (fp : List Addr) : Cs (X.blk s H scope (compEnvC scope cl A X.env) fp) Γ W0 k (S.blk scope) := by
  refine ⟨⟨C.c.prog, C.c.w, C.c.K, C.c.mg, C.c.base, C.c.calm, C.c.nd, C.c.un, takes0⟩, C.N, ?_, fun x => rfl, C.hr, C.gd, fun z => (by cases z), fun z => (by cases z)⟩
  show relabel scope X.env = relS scope S.sc
  rw [← C.sc]
  rfl
theorem tg_one {i : Nat} {e : Expr} (h : tgN S i e = true) : ∀ (Y : Cx) (V : WX), Cs Y Γ V k S → TgOk Y Γ (.n i) e (gName i) := fun Y V CY => by
  unfold tgN at h
  split at h
  · simp only [Bool.and_eq_true] at h
    obtain ⟨a, b⟩ := loc_of CY h.2
    exact tg_name CY.c.nd (sl_of CY h.1) a b
  · cases h
theorem tg_many : ∀ {is : List Nat} {ts : List Expr}, chkTs S is ts = true → ∃ g, (∀ (Y : Cx) (V : WX), Cs Y Γ V k S → TgsOk Y Γ is ts g) ∧ ts.length = is.length ∧ noStars ts = true
  | [], [], _ => ⟨gNil, fun Y V CY => tgs_nil, rfl, rfl⟩
  | [], _ :: _, h => by cases h
  | _ :: _, [], h => by cases h
  | i :: is, t :: ts, h => by
    have h : (tgN S i t && chkTs S is ts) = true := h
    rw [Bool.and_eq_true] at h
    obtain ⟨g, h1, h2, h3⟩ := tg_many h.2
    have hst : isStar t = false := by
      cases t <;> first | rfl | (cases h.1)
    refine ⟨gCons (gName i) g, fun Y V CY => tgs_cons (tg_one h.1 Y V CY) (h1 Y V CY) (fun v σ H Q Q' q f => f _ _ q) hst, congrArg (· + 1) h2, ?_⟩
    unfold noStars
    rw [hst]
    exact h3
theorem tg_of {tg : Tg} {e : Expr} (h : chkT S tg e = true) : ∃ g, ∀ (Y : Cx) (V : WX), Cs Y Γ V k S → TgOk Y Γ tg e g := by
  unfold chkT at h
  split at h
  · exact ⟨_, tg_one h⟩
  · split at h
    · rename_i is _ ts kk pos
      obtain ⟨g, h1, h2, h3⟩ := tg_many (Γ := Γ) (k := k) h
      refine ⟨gTup Γ.K is.length g, fun Y V CY => ?_⟩
      have z := tg_tup CY.c (h1 Y V CY) h2 h3 (k := kk) (pos := pos)
      rw [CY.c.K] at z
      exact z
    · cases h
abbrev Bth (X : Cx) (Γ : Gm) (W : WX) (e : Expr) (ev : Env → Hh → R Vl) : Prop := PE X e (tE Γ W ev) ∧ PT X e (tB' Γ W (tru ev))
theorem bth {e : Expr} {ev : Env → Hh → R Vl} (C : Cs X Γ W k S) (h : PE X e (tE Γ W ev)) (ht : plainT e = true) : Bth X Γ W e ev := ⟨h, t_plain C.c h (plainT_is ht)⟩
end
def AllPE (X : Cx) (Γ : Gm) (W : WX) : List Expr → List (Env → Hh → R Vl) → Prop
  | [], [] => True
  | e :: es, v :: vs => PE X e (tE Γ W v) ∧ AllPE X Γ W es vs
  | _, _ => False
def argsEv : List (Env → Hh → R Vl) → Env → Hh → R (List Vl)
  | [] => fun _ h => .ok [] h
  | v :: vs => fun env h => bnd (v env h) fun x h => bnd (argsEv vs env h) fun xs h => .ok (x :: xs) h
theorem pw_of {X : Cx} {op : PySem.BoolOp} {es : List Expr} {pos : Pos} {t : TT} (h : PT X (.BoolOp op es pos) t) : PW X (.BoolOp op es pos) t := ⟨fun _ pins s σ H Q I hq => h.run pins s σ H Q I hq⟩
theorem tgIn_of {tg : Tg} {own : List Nat} (h : tgIn tg own = true) : ∀ i ∈ slots tg, i ∈ own := fun i hi => by
  unfold tgIn at h
  exact List.contains_iff_mem.mp (List.all_eq_true.mp h i hi)
theorem anil_of {D : Nm} {S : Sc} {x : Ex} (h : chkA D S x [] = true) : x = .anil := by
  cases x <;> first | rfl | (unfold chkA at h; cases h)
theorem ts_nil {X : Cx} {Γ : Gm} {W : WX} : PTs X [] (tB' Γ W fun _ h => .ok true h) := ⟨fun pins s σ H Q I hq => pts_nil.run pins s σ H Q I (by
  obtain ⟨L, m, h, env, rh, re, k⟩ := hq
  exact k.now (u := true) rh rfl)⟩
section
variable {Γ : Gm} {G : GT} {D : Nm} {cf : CF} {k : Nat}
mutual
theorem sndE (V : Lv Γ G D cf k) : ∀ (x : Ex) {X : Cx} {W : WX} {S : Sc} {e : Expr}, Cs X Γ W k S → chkE D S x e = true → Bth X Γ W e (evE G cf x)
  | .var i, X, W, S, e, C, h => by
    unfold chkE at h
    split at h
    · simp only [Bool.and_eq_true] at h
      obtain ⟨⟨h1, h2⟩, h3⟩ := h
      exact bth C (s_var (sl_of C h1) (vis_of C h2) (nm_of h3).1 (nm_of h3).2) rfl
    · cases h
  | .int i, X, W, S, e, C, h => by
    unfold chkE at h
    split at h
    · cases of_decide_eq_true h
      exact bth C (s_const pe_int fun _ _ _ => rfl) rfl
    · cases h
  | .bl i, X, W, S, e, C, h => by
    unfold chkE at h
    split at h
    · cases of_decide_eq_true h
      exact bth C (s_const pe_bl fun _ _ _ => rfl) rfl
    · cases h
  | .non, X, W, S, e, C, h => by
    unfold chkE at h
    split at h
    · exact bth C (s_const pe_non fun _ _ _ => rfl) rfl
    · cases h
  | .str s, X, W, S, e, C, h => by
    unfold chkE at h
    split at h
    · cases of_decide_eq_true h
      exact bth C (s_const pe_str fun _ _ _ => rfl) rfl
    · cases h
  | .gl g, X, W, S, e, C, h => by
    unfold chkE at h
    split at h
    · rename_i x pos
      simp only [Bool.and_eq_true] at h
      obtain ⟨⟨h1, h2⟩, h3⟩ := h
      obtain ⟨v, u, w, e1, e2, e3, e4⟩ := V.gv _ g (of_decide_eq_true h2)
      rw [← C.c.mg] at e2
      have q : PE X (.Name x pos) (tE Γ W fun _ h => .ok v h) := s_const (pe_glob (gl_of C h1) e2 e3 (nm_of h3).1) e4
      have z : evE G cf (.gl g) = fun _ h => .ok v h := by
        funext env h
        show lift (G.gv g) h = _
        rw [e1]
        rfl
      rw [z]
      exact bth C q rfl
    · cases h
  | .bin o a b, X, W, S, e, C, h => by
    unfold chkE at h
    split at h
    · simp only [Bool.and_eq_true] at h
      obtain ⟨⟨h1, h2⟩, h3⟩ := h
      cases opB_eq h1
      exact bth C (s_bin C.c o (sndE V a C h2).1 (sndE V b C h3).1) rfl
    · cases h
  | .neg a, X, W, S, e, C, h => by
    unfold chkE at h
    split at h
    · exact bth C (s_neg (sndE V a C h).1) rfl
    · cases h
  | .cmp o a b, X, W, S, e, C, h => by
    unfold chkE at h
    split at h
    · simp only [Bool.and_eq_true, Bool.not_eq_true'] at h
      obtain ⟨⟨⟨h1, h2⟩, h3⟩, h4⟩ := h
      cases cpB_eq h1
      exact ⟨s_cmp C.c o (sndE V a C h2).1 (sndE V b C h3).1 h4, t_cmp C.c o (sndE V a C h2).1 (sndE V b C h3).1 h4⟩
    · cases h
  | .chain o p a b c, X, W, S, e, C, h => by
    unfold chkE at h
    split at h
    · simp only [Bool.and_eq_true, Bool.not_eq_true'] at h
      obtain ⟨⟨⟨⟨⟨h1, h2⟩, h3⟩, h4⟩, h5⟩, h6⟩ := h
      cases cpB_eq h1
      cases cpB_eq h2
      exact ⟨s_chain C.c o p (sndE V a C h3).1 (sndE V b C h4).1 (sndE V c C h5).1 h6, t_chain C.c o p (sndE V a C h3).1 (sndE V b C h4).1 (sndE V c C h5).1 h6⟩
    · cases h
  | .and a b, X, W, S, e, C, h => by
    have q := fun {e} => sndE V b (X := X) (W := W) (S := S) (e := e) C
    unfold chkE at h
    split at h
    · simp only [Bool.and_eq_true] at h
      have qa := sndE V a C h.1
      have qb := sndE V b C h.2
      exact ⟨s_and qa.1 (s_and1 qb.1), (w_and qa.2 (w_and1 qb.2)).pt⟩
    · simp only [Bool.and_eq_true] at h
      have qa := sndE V a C h.1
      have qb := q h.2
      exact ⟨s_and qa.1 qb.1, (w_and qa.2 (pw_of qb.2)).pt⟩
    · cases h
  | .or a b, X, W, S, e, C, h => by
    have q := fun {e} => sndE V b (X := X) (W := W) (S := S) (e := e) C
    unfold chkE at h
    split at h
    · simp only [Bool.and_eq_true] at h
      have qa := sndE V a C h.1
      have qb := sndE V b C h.2
      exact ⟨s_or qa.1 (s_or1 qb.1), (w_or qa.2 (w_or1 qb.2)).pt⟩
    · simp only [Bool.and_eq_true] at h
      have qa := sndE V a C h.1
      have qb := q h.2
      exact ⟨s_or qa.1 qb.1, (w_or qa.2 (pw_of qb.2)).pt⟩
    · cases h
  | .not a, X, W, S, e, C, h => by
    unfold chkE at h
    split at h
    · exact ⟨s_not C.c (sndE V a C h).1, t_not (sndE V a C h).2⟩
    · cases h
  | .ite c a b, X, W, S, e, C, h => by
    unfold chkE at h
    split at h
    · simp only [Bool.and_eq_true] at h
      obtain ⟨⟨h1, h2⟩, h3⟩ := h
      exact ⟨s_ite (sndE V c C h1).2 (sndE V a C h2).1 (sndE V b C h3).1, t_ite (sndE V c C h1).2 (sndE V a C h2).2 (sndE V b C h3).2⟩
    · cases h
  | .tup as, X, W, S, e, C, h => by
    unfold chkE at h
    split at h
    · exact bth C (s_tup (sndA V as C h)) rfl
    · cases h
  | .fz f, X, W, S, e, C, h => by
    unfold chkE at h
    simp only [Bool.and_eq_true] at h
    exact bth C (s_fz (sndF V f C h.1)) h.2
  | .th f, X, W, S, e, C, h => by
    unfold chkE at h
    simp only [Bool.and_eq_true] at h
    exact bth C (s_th (sndF V f C h.1)) h.2
  | .sub a i, X, W, S, e, C, h => by
    unfold chkE at h
    split at h
    · simp only [Bool.and_eq_true, Bool.not_eq_true'] at h
      obtain ⟨⟨h1, h2⟩, h3⟩ := h
      exact bth C (s_sub C.c (sndE V a C h1).1 (sndE V i C h2).1 (plainIx_of h3)) rfl
    · cases h
  | .slc a lo hi, X, W, S, e, C, h => by
    unfold chkE at h
    split at h
    · simp only [Bool.and_eq_true] at h
      obtain ⟨⟨h1, h2⟩, h3⟩ := h
      exact bth C (s_slc C.c (sndE V a C h1).1 (sndO V lo C h2) (sndO V hi C h3)) rfl
    · cases h
  | .call f as, X, W, S, e, C, h => by
    unfold chkE at h
    split at h
    · simp only [Bool.and_eq_true] at h
      obtain ⟨⟨⟨⟨h1, h2⟩, h3⟩, h4⟩, h5⟩ := h
      have hm := V.fn _ f (of_decide_eq_true h2)
      rename_i x p es pos
      cases es with
      | nil =>
        have e := anil_of h5
        subst e
        exact bth C (s_call0 C.c (V.fi f) C.hr (gl_of C h1) hm (nm_of h3).1) rfl
      | cons e es => exact bth C (s_call C.c (V.fi f) C.hr (gl_of C h1) hm (nm_of h3).1 (sndA V as C h5) h4) rfl
    · cases h
  | .callv i as, X, W, S, e, C, h => by
    unfold chkE at h
    split at h
    · simp only [Bool.and_eq_true] at h
      obtain ⟨⟨⟨⟨h1, h2⟩, h3⟩, h4⟩, h5⟩ := h
      exact bth C (s_callv C.c V.fi C.hr (sl_of C h1) (vis_of C h2) (nm_of h3).1 (nm_of h3).2 (sndA V as C h5) h4) rfl
    · cases h
  | .mk c as, X, W, S, e, C, h => by
    have qa := fun {es} => sndA V as (X := X) (W := W) (S := S) (es := es) C
    unfold chkE at h
    split at h
    · simp only [Bool.and_eq_true] at h
      obtain ⟨⟨⟨⟨h1, h2⟩, h3⟩, h4⟩, h5⟩ := h
      obtain ⟨m1, m2, m3, _⟩ := V.km _ _ (of_decide_eq_true h2)
      exact bth C (s_mk C.c V.fj C.hr (.inl V.k1) m3 (gl_of C h1) m1 (nm_of h3).1 m2 (qa h5) h4) rfl
    · cases h
  | .bif b as, X, W, S, e, C, h => by
    have qa := fun {es} => sndA V as (X := X) (W := W) (S := S) (es := es) C
    have qx := fun {es} => sndX V as (X := X) (W := W) (S := S) (es := es) C
    unfold chkE at h
    split at h
    · rename_i x p a es pos
      rw [Bool.or_eq_true] at h
      rcases h with h | h
      · simp only [Bool.and_eq_true] at h
        obtain ⟨⟨⟨⟨h1, h2⟩, h3⟩, h4⟩, h5⟩ := h
        cases of_decide_eq_true h1
        have hb : bifNm b ≠ "" := of_decide_eq_true h2
        have hn : Str.ofString (bifNm b) ∈ bNames := by cases b <;> first | exact absurd rfl hb | decide
        exact bth C (s_bif C.c (gl_of C h3) hb (V.nb _ hn) (qa h5) h4) rfl
      · split at h
        · rename_i t p2
          simp only [Bool.and_eq_true, Bool.not_eq_true'] at h
          obtain ⟨⟨⟨⟨⟨⟨h1, h2⟩, h3⟩, h4⟩, h5⟩, h6⟩, h7⟩ := h
          cases of_decide_eq_true h1
          cases of_decide_eq_true h2
          have hb : isNm b ≠ "" := of_decide_eq_true h3
          have hn : Str.ofString (isNm b) ∈ bNames := by cases b <;> first | exact absurd rfl hb | decide
          obtain ⟨evs, e1, e2⟩ := qx (by unfold noStars; rw [h6]; rfl) h7
          cases evs with
          | nil => exact e1.elim
          | cons ea r => cases r with
            | cons _ _ => exact e1.2.elim
            | nil =>
              have z : evE G cf (.bif b as) = fun env h => bnd (evA G cf as env h) fun xs h => lift (bifV b h xs) h := rfl
              rw [z, e2]
              exact bth C (s_is C.c hb V.ow (gl_of C h4) (V.nb _ (by decide)) (gl_of C h5) (V.nb _ hn) e1.1 h6) rfl
        · cases h
    · cases h
  | .mth t o as, X, W, S, e, C, h => by
    have qo := fun {e} => sndE V o (X := X) (W := W) (S := S) (e := e) C
    have qa := fun {es} => sndA V as (X := X) (W := W) (S := S) (es := es) C
    unfold chkE at h
    split at h
    · rename_i o' x apos es pos
      simp only [Bool.and_eq_true] at h
      obtain ⟨⟨⟨⟨h1, h2⟩, h3⟩, h4⟩, h5⟩ := h
      cases of_decide_eq_true h1
      split at h5
      · simp only [Bool.and_eq_true, Bool.not_eq_true'] at h5
        exact bth C (s_mth C.c (t := .append) (.inl rfl) (qo h2).1 (qa h5.2) h3 h4 h5.1) rfl
      · simp only [Bool.and_eq_true, Bool.not_eq_true'] at h5
        exact bth C (s_mth C.c (t := .extend) (.inr (.inl rfl)) (qo h2).1 (qa h5.2) h3 h4 h5.1) rfl
      · simp only [Bool.and_eq_true, Bool.not_eq_true'] at h5
        exact bth C (s_mth C.c (t := .pop1) (.inr (.inr rfl)) (qo h2).1 (qa h5.2) h3 h4 h5.1) rfl
      · have e := anil_of h5
        subst e
        exact bth C (s_pop C.c (qo h2).1 h3 h4) rfl
      · have e := anil_of h5
        subst e
        exact bth C (s_bits (qo h2).1 h3 h4) rfl
      · cases h5
    · cases h
  | .attr o f, X, W, S, e, C, h => by
    have qo := fun {e} => sndE V o (X := X) (W := W) (S := S) (e := e) C
    unfold chkE at h
    split at h
    · simp only [Bool.and_eq_true] at h
      obtain ⟨⟨h1, h2⟩, h3⟩ := h
      exact bth C (s_attr C.c V.kl V.fj C.hr (.inl V.k1) (of_decide_eq_true h1) (qo h2).1 (base_plain h3)) rfl
    · cases h
  | .ocmp neg a b, X, W, S, e, C, h => by
    have qa := fun {e} => sndE V a (X := X) (W := W) (S := S) (e := e) C
    have qb := fun {e} => sndE V b (X := X) (W := W) (S := S) (e := e) C
    unfold chkE at h
    split at h
    · simp only [Bool.and_eq_true, Bool.not_eq_true'] at h
      obtain ⟨⟨⟨h1, h2⟩, h3⟩, h4⟩ := h
      cases neg with
      | true =>
        cases cpB_eq h1
        exact ⟨s_ocmp C.c V.ke V.ow V.fj C.hr (.inl V.k1) true (qa h2).1 (qb h3).1 h4, t_ocmp C.c V.ke V.ow V.fj C.hr (.inl V.k1) true (qa h2).1 (qb h3).1 h4⟩
      | false =>
        cases cpB_eq h1
        exact ⟨s_ocmp C.c V.ke V.ow V.fj C.hr (.inl V.k1) false (qa h2).1 (qb h3).1 h4, t_ocmp C.c V.ke V.ow V.fj C.hr (.inl V.k1) false (qa h2).1 (qb h3).1 h4⟩
    · cases h
  | .isown c a, X, W, S, e, C, h => by
    have qo := fun {e} => sndE V a (X := X) (W := W) (S := S) (e := e) C
    unfold chkE at h
    split at h
    · simp only [Bool.and_eq_true, Bool.not_eq_true'] at h
      obtain ⟨⟨⟨⟨⟨⟨h1, h2⟩, h3⟩, h4⟩, h5⟩, h6⟩, h7⟩ := h
      cases of_decide_eq_true h1
      obtain ⟨m1, _, _, m4⟩ := V.km _ _ (of_decide_eq_true h5)
      exact bth C (s_isown C.c V.ow m4 (gl_of C h2) (V.nb _ (by decide)) (gl_of C h3) m1 (nm_of h4).1 (qo h7).1 h6) rfl
    · cases h
  | .lrg _, X, W, S, e, C, h => by
    unfold chkE at h
    cases h
  | .rev a, X, W, S, e, C, h => by
    unfold chkE at h
    split at h
    · exact bth C (s_rev C.c (sndE V a C h).1) rfl
    · cases h
  | .dz, X, W, S, e, C, h => by
    unfold chkE at h
    split at h
    · exact bth C s_dz rfl
    · cases h
  | .rpr a, X, W, S, e, C, h => by
    unfold chkE at h
    split at h
    · simp only [Bool.and_eq_true, Bool.not_eq_true'] at h
      obtain ⟨⟨⟨⟨h1, h2⟩, h3⟩, h4⟩, h5⟩ := h
      cases of_decide_eq_true h2
      exact bth C (s_rpr C.c (C.gd h1) (V.nb _ (by decide)) (gl_of C h3) (sndE V a C h5).1 h4) rfl
    · cases h
  | .lamc f b, X, W, S, e, C, h => by
    have qb := fun {Y : Cx} {W' : WX} {S' : Sc} {e : Expr} => sndE V b (X := Y) (W := W') (S := S') (e := e)
    unfold chkE at h
    split at h
    · rename_i xl pl prl bdl scl pl2 pl3
      simp only [Bool.and_eq_true] at h
      obtain ⟨⟨⟨⟨⟨⟨h1, h2⟩, h3⟩, h4⟩, h5⟩, h6⟩, h7⟩ := h
      have LM := C.lm h1
      have hm := V.fn _ f (of_decide_eq_true h4)
      cases hM : G.met f with
      | none =>
        have z : evE G cf (.lamc f b) = fun _ _ => .bad := by
          funext env h
          show (match G.met f with | some M => metR M h.length (evE G cf b env h) | none => .bad) = _
          rw [hM]
        rw [z]
        exact bth C ⟨fun pins s σ H Q I hq => by obtain ⟨_, _, _, _, _, _, kk⟩ := hq; exact kk.elim⟩ rfl
      | some M =>
        have z : evE G cf (.lamc f b) = fun env h => metR M h.length (evE G cf b env h) := by
          funext env h
          show (match G.met f with | some M => metR M h.length (evE G cf b env h) | none => .bad) = _
          rw [hM]
        rw [z]
        obtain ⟨m1, m2⟩ := V.mt f M hM
        have L : LamX.LamS X.env.scope scl := by rw [C.sc]; exact LamX.lamS_by h6
        have CL : ∀ (A : Around) (outer : List PySem.Env) (s : Shared) (H : Hp) (E : XK) (g c1 : Addr), Room k (A.deeper (LamX.lamEnv X scl s.heap.objs.size g c1)) → Cs (LamX.lamCx X A outer s H E scl g c1) Γ (fun cls d _ H => E cls d H) k (S.lam scl) := fun A outer s H E g c1 hr => by
          refine ⟨⟨C.c.prog, C.c.w, C.c.K, C.c.mg, C.c.base, rfl, C.c.nd, hr.units, takes_of rfl rfl rfl rfl⟩, C.N, rfl, fun x => ?_, hr, (fun z => by cases (show false = true from z)), (fun z => by cases (show false = true from z)), (fun z => by cases (show false = true from z))⟩
          show false = _
          unfold Sc.fnB Sc.lam
          dsimp only
          cases hl : List.lookup x scl.names with
          | none => rfl
          | some kd =>
            cases kd <;> first | rfl | (exact absurd rfl (L.own _ (PySem.mem_of_lookup hl)).2)
        exact bth C (s_lamc C.c (C.gd (C.lg h1)) (V.nb _ (by decide)) V.ek m1 m2 LM (gl_of C h2) hm (nm_of h3).1 h5 L (fun A outer s H E g c1 hr => (qb (CL A outer s H E g c1 hr) h7).1)) rfl
    · cases h
  | .callg f as, X, W, S, e, C, h => by
    unfold chkE at h
    split at h
    · simp only [Bool.and_eq_true] at h
      obtain ⟨⟨⟨⟨⟨h1, h2⟩, h3⟩, h4⟩, h5⟩, h6⟩ := h
      have hm := V.fgn _ f (of_decide_eq_true h3)
      rename_i x p es pos
      cases es with
      | nil =>
        have e := anil_of h6
        subst e
        exact bth C (s_callg0 C.c (V.fg f) (C.gd h1) C.hr (gl_of C h2) hm (nm_of h4).1) rfl
      | cons e es => exact bth C (s_callg C.c (V.fg f) (C.gd h1) C.hr (gl_of C h2) hm (nm_of h4).1 (sndA V as C h6) h5) rfl
    · cases h
  | .dnew, X, W, S, e, C, h => by
    unfold chkE at h
    split at h
    · exact bth C s_dnew rfl
    · cases h
  | .trg as, X, W, S, e, C, h => by
    have qx := fun {es} => sndX V as (X := X) (W := W) (S := S) (es := es) C
    unfold chkE at h
    split at h
    · simp only [Bool.and_eq_true, Bool.not_eq_true'] at h
      obtain ⟨⟨⟨⟨⟨h1, h2⟩, h3⟩, h4⟩, h5⟩, h6⟩ := h
      cases of_decide_eq_true h1
      cases of_decide_eq_true h2
      obtain ⟨evs, e1, e2⟩ := qx (by unfold noStars; rw [h5]; rfl) h6
      cases evs with
      | nil => exact e1.elim
      | cons ea r => cases r with
        | cons _ _ => exact e1.2.elim
        | nil =>
          have z : evE G cf (.trg as) = fun env h => bnd (evA G cf as env h) trgR := rfl
          rw [z, e2]
          exact bth C (s_trg1 C.c (gl_of C h3) (V.nb _ (by decide)) (gl_of C h4) (V.nb _ (by decide)) e1.1 h5) rfl
    · cases h
  | .anil, X, W, S, e, C, h => by
    unfold chkE at h
    cases h
  | .acons _ _, X, W, S, e, C, h => by
    unfold chkE at h
    cases h
  | .astar _ _, X, W, S, e, C, h => by
    unfold chkE at h
    cases h
  | .disp _, X, W, S, e, C, h => by
    unfold chkE at h
    cases h
  | .comp _ _ _ _ _, X, W, S, e, C, h => by
    unfold chkE at h
    cases h
  | .listof _, X, W, S, e, C, h => by
    unfold chkE at h
    cases h
  | .srt _ _, X, W, S, e, C, h => by
    unfold chkE at h
    cases h
  | .cat _ _, X, W, S, e, C, h => by
    unfold chkE at h
    cases h
  | .rep _ _, X, W, S, e, C, h => by
    unfold chkE at h
    cases h
  | .slf _ _ _, X, W, S, e, C, h => by
    unfold chkE at h
    cases h
  | .over _, X, W, S, e, C, h => by
    unfold chkE at h
    cases h
  | .range _, X, W, S, e, C, h => by
    unfold chkE at h
    cases h
  | .enum _, X, W, S, e, C, h => by
    unfold chkE at h
    cases h
  | .zip _ _, X, W, S, e, C, h => by
    unfold chkE at h
    cases h
  | .noe, X, W, S, e, C, h => by
    unfold chkE at h
    cases h
  | .sm _, X, W, S, e, C, h => by
    unfold chkE at h
    cases h
theorem sndA (V : Lv Γ G D cf k) : ∀ (x : Ex) {X : Cx} {W : WX} {S : Sc} {es : List Expr}, Cs X Γ W k S → chkA D S x es = true → PA X es (tL Γ W (evA G cf x))
  | .anil, X, W, S, e, C, h => by
    unfold chkA at h
    split at h
    · exact a_nil
    · cases h
  | .acons a r, X, W, S, e, C, h => by
    unfold chkA at h
    split at h
    · simp only [Bool.and_eq_true, Bool.not_eq_true'] at h
      obtain ⟨⟨h1, h2⟩, h3⟩ := h
      exact a_cons (sndE V a C h2).1 (sndA V r C h3) (star_cons h1)
    · cases h
  | .astar a r, X, W, S, e, C, h => by
    unfold chkA at h
    split at h
    · simp only [Bool.and_eq_true] at h
      exact a_star C.c (sndE V a C h.1).1 (sndA V r C h.2)
    · cases h
  | .var _, X, W, S, e, C, h => by
    unfold chkA at h
    cases h
  | .int _, X, W, S, e, C, h => by
    unfold chkA at h
    cases h
  | .bl _, X, W, S, e, C, h => by
    unfold chkA at h
    cases h
  | .non, X, W, S, e, C, h => by
    unfold chkA at h
    cases h
  | .str _, X, W, S, e, C, h => by
    unfold chkA at h
    cases h
  | .gl _, X, W, S, e, C, h => by
    unfold chkA at h
    cases h
  | .bin _ _ _, X, W, S, e, C, h => by
    unfold chkA at h
    cases h
  | .neg _, X, W, S, e, C, h => by
    unfold chkA at h
    cases h
  | .cmp _ _ _, X, W, S, e, C, h => by
    unfold chkA at h
    cases h
  | .chain _ _ _ _ _, X, W, S, e, C, h => by
    unfold chkA at h
    cases h
  | .and _ _, X, W, S, e, C, h => by
    unfold chkA at h
    cases h
  | .or _ _, X, W, S, e, C, h => by
    unfold chkA at h
    cases h
  | .not _, X, W, S, e, C, h => by
    unfold chkA at h
    cases h
  | .ite _ _ _, X, W, S, e, C, h => by
    unfold chkA at h
    cases h
  | .tup _, X, W, S, e, C, h => by
    unfold chkA at h
    cases h
  | .fz _, X, W, S, e, C, h => by
    unfold chkA at h
    cases h
  | .th _, X, W, S, e, C, h => by
    unfold chkA at h
    cases h
  | .sub _ _, X, W, S, e, C, h => by
    unfold chkA at h
    cases h
  | .slc _ _ _, X, W, S, e, C, h => by
    unfold chkA at h
    cases h
  | .call _ _, X, W, S, e, C, h => by
    unfold chkA at h
    cases h
  | .callv _ _, X, W, S, e, C, h => by
    unfold chkA at h
    cases h
  | .mk _ _, X, W, S, e, C, h => by
    unfold chkA at h
    cases h
  | .bif _ _, X, W, S, e, C, h => by
    unfold chkA at h
    cases h
  | .mth _ _ _, X, W, S, e, C, h => by
    unfold chkA at h
    cases h
  | .ocmp _ _ _, X, W, S, e, C, h => by
    unfold chkA at h
    cases h
  | .isown _ _, X, W, S, e, C, h => by
    unfold chkA at h
    cases h
  | .attr _ _, X, W, S, e, C, h => by
    unfold chkA at h
    cases h
  | .rev _, X, W, S, e, C, h => by
    unfold chkA at h
    cases h
  | .dnew, X, W, S, e, C, h => by
    unfold chkA at h
    cases h
  | .dz, X, W, S, e, C, h => by
    unfold chkA at h
    cases h
  | .rpr _, X, W, S, e, C, h => by
    unfold chkA at h
    cases h
  | .lamc _ _, X, W, S, e, C, h => by
    unfold chkA at h
    cases h
  | .callg _ _, X, W, S, e, C, h => by
    unfold chkA at h
    cases h
  | .trg _, X, W, S, e, C, h => by
    unfold chkA at h
    cases h
  | .lrg _, X, W, S, e, C, h => by
    unfold chkA at h
    cases h
  | .disp _, X, W, S, e, C, h => by
    unfold chkA at h
    cases h
  | .comp _ _ _ _ _, X, W, S, e, C, h => by
    unfold chkA at h
    cases h
  | .listof _, X, W, S, e, C, h => by
    unfold chkA at h
    cases h
  | .srt _ _, X, W, S, e, C, h => by
    unfold chkA at h
    cases h
  | .cat _ _, X, W, S, e, C, h => by
    unfold chkA at h
    cases h
  | .rep _ _, X, W, S, e, C, h => by
    unfold chkA at h
    cases h
  | .slf _ _ _, X, W, S, e, C, h => by
    unfold chkA at h
    cases h
  | .over _, X, W, S, e, C, h => by
    unfold chkA at h
    cases h
  | .range _, X, W, S, e, C, h => by
    unfold chkA at h
    cases h
  | .enum _, X, W, S, e, C, h => by
    unfold chkA at h
    cases h
  | .zip _ _, X, W, S, e, C, h => by
    unfold chkA at h
    cases h
  | .noe, X, W, S, e, C, h => by
    unfold chkA at h
    cases h
  | .sm _, X, W, S, e, C, h => by
    unfold chkA at h
    cases h
theorem sndX (V : Lv Γ G D cf k) : ∀ (x : Ex) {X : Cx} {W : WX} {S : Sc} {es : List Expr}, Cs X Γ W k S → noStars es = true → chkA D S x es = true → ∃ evs, AllPE X Γ W es evs ∧ evA G cf x = argsEv evs
  | .anil, X, W, S, e, C, hn, h => by
    unfold chkA at h
    split at h
    · exact ⟨[], trivial, rfl⟩
    · cases h
  | .acons a r, X, W, S, e, C, hn, h => by
    unfold chkA at h
    split at h
    · simp only [Bool.and_eq_true, Bool.not_eq_true'] at h
      obtain ⟨⟨h1, h2⟩, h3⟩ := h
      obtain ⟨evs, e1, e2⟩ := sndX V r C (noStars_cons hn).2 h3
      refine ⟨evE G cf a :: evs, ⟨(sndE V a C h2).1, e1⟩, ?_⟩
      show (fun env h => bnd (evE G cf a env h) fun x h => bnd (evA G cf r env h) fun xs h => .ok (x :: xs) h) = _
      rw [e2]
      rfl
    · cases h
  | .astar a r, X, W, S, e, C, hn, h => by
    unfold chkA at h
    split at h
    · cases (noStars_cons hn).1
    · cases h
  | .var _, X, W, S, e, C, hn, h => by
    unfold chkA at h
    cases h
  | .int _, X, W, S, e, C, hn, h => by
    unfold chkA at h
    cases h
  | .bl _, X, W, S, e, C, hn, h => by
    unfold chkA at h
    cases h
  | .non, X, W, S, e, C, hn, h => by
    unfold chkA at h
    cases h
  | .str _, X, W, S, e, C, hn, h => by
    unfold chkA at h
    cases h
  | .gl _, X, W, S, e, C, hn, h => by
    unfold chkA at h
    cases h
  | .bin _ _ _, X, W, S, e, C, hn, h => by
    unfold chkA at h
    cases h
  | .neg _, X, W, S, e, C, hn, h => by
    unfold chkA at h
    cases h
  | .cmp _ _ _, X, W, S, e, C, hn, h => by
    unfold chkA at h
    cases h
  | .chain _ _ _ _ _, X, W, S, e, C, hn, h => by
    unfold chkA at h
    cases h
  | .and _ _, X, W, S, e, C, hn, h => by
    unfold chkA at h
    cases h
  | .or _ _, X, W, S, e, C, hn, h => by
    unfold chkA at h
    cases h
  | .not _, X, W, S, e, C, hn, h => by
    unfold chkA at h
    cases h
  | .ite _ _ _, X, W, S, e, C, hn, h => by
    unfold chkA at h
    cases h
  | .tup _, X, W, S, e, C, hn, h => by
    unfold chkA at h
    cases h
  | .fz _, X, W, S, e, C, hn, h => by
    unfold chkA at h
    cases h
  | .th _, X, W, S, e, C, hn, h => by
    unfold chkA at h
    cases h
  | .sub _ _, X, W, S, e, C, hn, h => by
    unfold chkA at h
    cases h
  | .slc _ _ _, X, W, S, e, C, hn, h => by
    unfold chkA at h
    cases h
  | .call _ _, X, W, S, e, C, hn, h => by
    unfold chkA at h
    cases h
  | .callv _ _, X, W, S, e, C, hn, h => by
    unfold chkA at h
    cases h
  | .mk _ _, X, W, S, e, C, hn, h => by
    unfold chkA at h
    cases h
  | .bif _ _, X, W, S, e, C, hn, h => by
    unfold chkA at h
    cases h
  | .mth _ _ _, X, W, S, e, C, hn, h => by
    unfold chkA at h
    cases h
  | .ocmp _ _ _, X, W, S, e, C, hn, h => by
    unfold chkA at h
    cases h
  | .isown _ _, X, W, S, e, C, hn, h => by
    unfold chkA at h
    cases h
  | .attr _ _, X, W, S, e, C, hn, h => by
    unfold chkA at h
    cases h
  | .rev _, X, W, S, e, C, hn, h => by
    unfold chkA at h
    cases h
  | .dnew, X, W, S, e, C, hn, h => by
    unfold chkA at h
    cases h
  | .dz, X, W, S, e, C, hn, h => by
    unfold chkA at h
    cases h
  | .rpr _, X, W, S, e, C, hn, h => by
    unfold chkA at h
    cases h
  | .lamc _ _, X, W, S, e, C, hn, h => by
    unfold chkA at h
    cases h
  | .callg _ _, X, W, S, e, C, hn, h => by
    unfold chkA at h
    cases h
  | .trg _, X, W, S, e, C, hn, h => by
    unfold chkA at h
    cases h
  | .lrg _, X, W, S, e, C, hn, h => by
    unfold chkA at h
    cases h
  | .disp _, X, W, S, e, C, hn, h => by
    unfold chkA at h
    cases h
  | .comp _ _ _ _ _, X, W, S, e, C, hn, h => by
    unfold chkA at h
    cases h
  | .listof _, X, W, S, e, C, hn, h => by
    unfold chkA at h
    cases h
  | .srt _ _, X, W, S, e, C, hn, h => by
    unfold chkA at h
    cases h
  | .cat _ _, X, W, S, e, C, hn, h => by
    unfold chkA at h
    cases h
  | .rep _ _, X, W, S, e, C, hn, h => by
    unfold chkA at h
    cases h
  | .slf _ _ _, X, W, S, e, C, hn, h => by
    unfold chkA at h
    cases h
  | .over _, X, W, S, e, C, hn, h => by
    unfold chkA at h
    cases h
  | .range _, X, W, S, e, C, hn, h => by
    unfold chkA at h
    cases h
  | .enum _, X, W, S, e, C, hn, h => by
    unfold chkA at h
    cases h
  | .zip _ _, X, W, S, e, C, hn, h => by
    unfold chkA at h
    cases h
  | .noe, X, W, S, e, C, hn, h => by
    unfold chkA at h
    cases h
  | .sm _, X, W, S, e, C, hn, h => by
    unfold chkA at h
    cases h
theorem sndF (V : Lv Γ G D cf k) : ∀ (x : Ex) {X : Cx} {W : WX} {S : Sc} {e : Expr}, Cs X Γ W k S → chkF D S x e = true → PE X e (tF Γ W (evF G cf x))
  | .disp as, X, W, S, e, C, h => by
    unfold chkF at h
    split at h
    · exact f_disp (sndA V as C h)
    · cases h
  | .comp own tg it c el, X, W, S, e, C, h => by
    have qw := fun {t e} => sndW V it (X := X) (W := W) (S := S) (t := t) (e := e) C
    have qc := fun {Y S e} (CY : Cs Y Γ W0 k S) => sndC V c (X := Y) (W := W0) (S := S) (es := e) CY
    have qe := fun {Y S e} (CY : Cs Y Γ W0 k S) => sndE V el (X := Y) (W := W0) (S := S) (e := e) CY
    unfold chkF at h
    split at h
    · simp only [Bool.and_eq_true] at h
      obtain ⟨⟨⟨⟨⟨⟨⟨h1, h2⟩, h3⟩, h4⟩, h5⟩, h6⟩, h7⟩, h8⟩ := h
      have h1 := of_decide_eq_true h1
      obtain ⟨g, hg⟩ := tg_of (Γ := Γ) (k := k) h5
      have z := f_comp (own := ownP S own) (pos := by assumption) C.c (qw h6) (by rw [C.N, C.sc]; exact blkOk_by h2) (fun s H A cl fp => hg _ _ (C.blk _ s H A cl fp)) (fun s H A cl fp => qc (C.blk _ s H A cl fp) h7) (fun s H A cl fp => (qe (C.blk _ s H A cl fp) h8).1) (by rw [h1]; exact tgIn_of h3) (noSet_fold h4)
      rw [h1] at z
      exact z
    · cases h
  | .listof a, X, W, S, e, C, h => by
    unfold chkF at h
    split at h
    · simp only [Bool.and_eq_true, Bool.not_eq_true'] at h
      obtain ⟨⟨⟨h1, h2⟩, h3⟩, h4⟩ := h
      cases of_decide_eq_true h1
      exact f_list C.c (gl_of C h2) (V.nb _ (by decide)) (sndE V a C h4).1 h3
    · cases h
  | .srt rev a, X, W, S, e, C, h => by
    have qa := fun {e} => sndE V a (X := X) (W := W) (S := S) (e := e) C
    unfold chkF at h
    split at h
    · simp only [Bool.and_eq_true, Bool.not_eq_true'] at h
      obtain ⟨⟨⟨⟨h1, h2⟩, h3⟩, h4⟩, h5⟩ := h
      cases of_decide_eq_true h1
      subst h5
      exact f_sorted2 C.c (gl_of C h2) (V.nb _ (by decide)) (qa h4).1 h3
    · simp only [Bool.and_eq_true, Bool.not_eq_true'] at h
      obtain ⟨⟨⟨⟨⟨h1, h2⟩, h3⟩, h4⟩, h5⟩, h6⟩ := h
      cases of_decide_eq_true h1
      cases of_decide_eq_true h2
      subst h6
      exact f_sortedR2 C.c (gl_of C h3) (V.nb _ (by decide)) (qa h5).1 h4
    · cases h
  | .lrg as, X, W, S, e, C, h => by
    have qx := fun {es} => sndX V as (X := X) (W := W) (S := S) (es := es) C
    unfold chkF at h
    split at h
    · rename_i x p1 y p2 es p3 p4
      simp only [Bool.and_eq_true] at h
      obtain ⟨⟨⟨⟨⟨⟨⟨h1, h2⟩, h3⟩, h4⟩, h5⟩, h6⟩, h7⟩, h8⟩ := h
      cases of_decide_eq_true h1
      cases of_decide_eq_true h2
      obtain ⟨evs, e1, e2⟩ := qx h5 h6
      have z : evF G cf (.lrg as) = fun env h => bnd (evA G cf as env h) fun xs h => lift (rngL xs) h := rfl
      rw [z, e2]
      have l5 := of_decide_eq_true h7
      have l6 := of_decide_eq_true h8
      match es, evs, e1, h5, l5, l6 with
      | [a], [ea], e1, h5, _, _ => exact f_lrg1 (e1 := a) C.c (gl_of C h3) (V.nb _ (by decide)) (gl_of C h4) (V.nb _ (by decide)) e1.1 (noStars_cons h5).1
      | [a, b], [ea, eb], e1, h5, _, _ => exact f_lrg2 C.c (gl_of C h3) (V.nb _ (by decide)) (gl_of C h4) (V.nb _ (by decide)) e1.1 e1.2.1 h5
      | [], _, _, _, l5, _ => exact absurd l5 (by decide)
      | _ :: _ :: _ :: _, _, _, _, _, l6 => exact absurd l6 (by simp)
      | [_], [], e1, _, _, _ => exact e1.elim
      | [_], _ :: _ :: _, e1, _, _, _ => exact e1.2.elim
      | [_, _], [], e1, _, _, _ => exact e1.elim
      | [_, _], [_], e1, _, _, _ => exact e1.2.elim
      | [_, _], _ :: _ :: _ :: _, e1, _, _, _ => exact e1.2.2.elim
    · cases h
  | .cat a b, X, W, S, e, C, h => by
    unfold chkF at h
    split at h
    · simp only [Bool.and_eq_true] at h
      exact s_cat C.c (sndE V a C h.1).1 (sndE V b C h.2).1
    · cases h
  | .rep a b, X, W, S, e, C, h => by
    unfold chkF at h
    split at h
    · simp only [Bool.and_eq_true] at h
      exact s_rep C.c (sndE V a C h.1).1 (sndE V b C h.2).1
    · cases h
  | .slf a lo hi, X, W, S, e, C, h => by
    unfold chkF at h
    split at h
    · simp only [Bool.and_eq_true] at h
      obtain ⟨⟨h1, h2⟩, h3⟩ := h
      exact f_slf C.c (sndE V a C h1).1 (sndO V lo C h2) (sndO V hi C h3)
    · cases h
  | .var _, X, W, S, e, C, h => by
    unfold chkF at h
    cases h
  | .int _, X, W, S, e, C, h => by
    unfold chkF at h
    cases h
  | .bl _, X, W, S, e, C, h => by
    unfold chkF at h
    cases h
  | .non, X, W, S, e, C, h => by
    unfold chkF at h
    cases h
  | .str _, X, W, S, e, C, h => by
    unfold chkF at h
    cases h
  | .gl _, X, W, S, e, C, h => by
    unfold chkF at h
    cases h
  | .bin _ _ _, X, W, S, e, C, h => by
    unfold chkF at h
    cases h
  | .neg _, X, W, S, e, C, h => by
    unfold chkF at h
    cases h
  | .cmp _ _ _, X, W, S, e, C, h => by
    unfold chkF at h
    cases h
  | .chain _ _ _ _ _, X, W, S, e, C, h => by
    unfold chkF at h
    cases h
  | .and _ _, X, W, S, e, C, h => by
    unfold chkF at h
    cases h
  | .or _ _, X, W, S, e, C, h => by
    unfold chkF at h
    cases h
  | .not _, X, W, S, e, C, h => by
    unfold chkF at h
    cases h
  | .ite _ _ _, X, W, S, e, C, h => by
    unfold chkF at h
    cases h
  | .tup _, X, W, S, e, C, h => by
    unfold chkF at h
    cases h
  | .fz _, X, W, S, e, C, h => by
    unfold chkF at h
    cases h
  | .th _, X, W, S, e, C, h => by
    unfold chkF at h
    cases h
  | .sub _ _, X, W, S, e, C, h => by
    unfold chkF at h
    cases h
  | .slc _ _ _, X, W, S, e, C, h => by
    unfold chkF at h
    cases h
  | .call _ _, X, W, S, e, C, h => by
    unfold chkF at h
    cases h
  | .callv _ _, X, W, S, e, C, h => by
    unfold chkF at h
    cases h
  | .mk _ _, X, W, S, e, C, h => by
    unfold chkF at h
    cases h
  | .bif _ _, X, W, S, e, C, h => by
    unfold chkF at h
    cases h
  | .mth _ _ _, X, W, S, e, C, h => by
    unfold chkF at h
    cases h
  | .ocmp _ _ _, X, W, S, e, C, h => by
    unfold chkF at h
    cases h
  | .isown _ _, X, W, S, e, C, h => by
    unfold chkF at h
    cases h
  | .attr _ _, X, W, S, e, C, h => by
    unfold chkF at h
    cases h
  | .rev _, X, W, S, e, C, h => by
    unfold chkF at h
    cases h
  | .dnew, X, W, S, e, C, h => by
    unfold chkF at h
    cases h
  | .dz, X, W, S, e, C, h => by
    unfold chkF at h
    cases h
  | .rpr _, X, W, S, e, C, h => by
    unfold chkF at h
    cases h
  | .lamc _ _, X, W, S, e, C, h => by
    unfold chkF at h
    cases h
  | .callg _ _, X, W, S, e, C, h => by
    unfold chkF at h
    cases h
  | .trg _, X, W, S, e, C, h => by
    unfold chkF at h
    cases h
  | .anil, X, W, S, e, C, h => by
    unfold chkF at h
    cases h
  | .acons _ _, X, W, S, e, C, h => by
    unfold chkF at h
    cases h
  | .astar _ _, X, W, S, e, C, h => by
    unfold chkF at h
    cases h
  | .over _, X, W, S, e, C, h => by
    unfold chkF at h
    cases h
  | .range _, X, W, S, e, C, h => by
    unfold chkF at h
    cases h
  | .enum _, X, W, S, e, C, h => by
    unfold chkF at h
    cases h
  | .zip _ _, X, W, S, e, C, h => by
    unfold chkF at h
    cases h
  | .noe, X, W, S, e, C, h => by
    unfold chkF at h
    cases h
  | .sm _, X, W, S, e, C, h => by
    unfold chkF at h
    cases h
theorem sndW (V : Lv Γ G D cf k) : ∀ (x : Ex) {X : Cx} {W : WX} {S : Sc} {t e : Expr}, Cs X Γ W k S → chkW D S x t e = true → PI X t e (tW Γ W (evW G cf x))
  | .over a, X, W, S, t, e, C, h => by
    unfold chkW at h
    exact w_over C.c (sndE V a C h).1
  | .range as, X, W, S, t, e, C, h => by
    have qx := fun {es} => sndX V as (X := X) (W := W) (S := S) (es := es) C
    unfold chkW at h
    split at h
    · rename_i x p es pos
      simp only [Bool.and_eq_true] at h
      obtain ⟨⟨⟨⟨⟨h1, h2⟩, h3⟩, h4⟩, h5⟩, h6⟩ := h
      cases of_decide_eq_true h1
      obtain ⟨evs, e1, e2⟩ := qx h3 h4
      have hn : Γ.mg (Str.ofString "range") = none := V.nb _ (by decide)
      have z : evW G cf (.range as) = fun env h => bnd (evA G cf as env h) r1R := rfl
      rw [z, e2]
      have l5 := of_decide_eq_true h5
      have l6 := of_decide_eq_true h6
      match es, evs, e1, h3, l5, l6 with
      | [a], [ea], e1, h3, _, _ => exact w_range1 C.c (gl_of C h2) hn e1.1 h3
      | [a, b], [ea, eb], e1, h3, _, _ => exact w_range2 C.c (gl_of C h2) hn e1.1 e1.2.1 h3
      | [a, b, c], [ea, eb, ec], e1, h3, _, _ => exact w_range3 C.c (gl_of C h2) hn e1.1 e1.2.1 e1.2.2.1 h3
      | [], _, _, _, l5, _ => exact absurd l5 (by decide)
      | _ :: _ :: _ :: _ :: _, _, _, _, _, l6 => exact absurd l6 (by simp)
      | [_], [], e1, _, _, _ => exact e1.elim
      | [_], _ :: _ :: _, e1, _, _, _ => exact e1.2.elim
      | [_, _], [], e1, _, _, _ => exact e1.elim
      | [_, _], [_], e1, _, _, _ => exact e1.2.elim
      | [_, _], _ :: _ :: _ :: _, e1, _, _, _ => exact e1.2.2.elim
      | [_, _, _], [], e1, _, _, _ => exact e1.elim
      | [_, _, _], [_], e1, _, _, _ => exact e1.2.elim
      | [_, _, _], [_, _], e1, _, _, _ => exact e1.2.2.elim
      | [_, _, _], _ :: _ :: _ :: _ :: _, e1, _, _, _ => exact e1.2.2.2.elim
    · cases h
  | .enum a, X, W, S, t, e, C, h => by
    have qa := fun {e} => sndE V a (X := X) (W := W) (S := S) (e := e) C
    unfold chkW at h
    split at h
    · simp only [Bool.and_eq_true, Bool.not_eq_true'] at h
      obtain ⟨⟨⟨h1, h2⟩, h3⟩, h4⟩ := h
      cases of_decide_eq_true h1
      exact w_enumL C.c (gl_of C h2) (V.nb _ (by decide)) (qa h4).1 (by unfold noStars; rw [h3]; rfl)
    · cases h
  | .zip a b, X, W, S, t, e, C, h => by
    have qa := fun {e} => sndE V a (X := X) (W := W) (S := S) (e := e) C
    have qb := fun {e} => sndE V b (X := X) (W := W) (S := S) (e := e) C
    unfold chkW at h
    split at h
    · simp only [Bool.and_eq_true] at h
      obtain ⟨⟨⟨⟨h1, h2⟩, h3⟩, h4⟩, h5⟩ := h
      cases of_decide_eq_true h1
      exact w_zip C.c (gl_of C h2) (V.nb _ (by decide)) (qa h4).1 (qb h5).1 h3
    · cases h
  | .var _, X, W, S, t, e, C, h => by
    unfold chkW at h
    cases h
  | .int _, X, W, S, t, e, C, h => by
    unfold chkW at h
    cases h
  | .bl _, X, W, S, t, e, C, h => by
    unfold chkW at h
    cases h
  | .non, X, W, S, t, e, C, h => by
    unfold chkW at h
    cases h
  | .str _, X, W, S, t, e, C, h => by
    unfold chkW at h
    cases h
  | .gl _, X, W, S, t, e, C, h => by
    unfold chkW at h
    cases h
  | .bin _ _ _, X, W, S, t, e, C, h => by
    unfold chkW at h
    cases h
  | .neg _, X, W, S, t, e, C, h => by
    unfold chkW at h
    cases h
  | .cmp _ _ _, X, W, S, t, e, C, h => by
    unfold chkW at h
    cases h
  | .chain _ _ _ _ _, X, W, S, t, e, C, h => by
    unfold chkW at h
    cases h
  | .and _ _, X, W, S, t, e, C, h => by
    unfold chkW at h
    cases h
  | .or _ _, X, W, S, t, e, C, h => by
    unfold chkW at h
    cases h
  | .not _, X, W, S, t, e, C, h => by
    unfold chkW at h
    cases h
  | .ite _ _ _, X, W, S, t, e, C, h => by
    unfold chkW at h
    cases h
  | .tup _, X, W, S, t, e, C, h => by
    unfold chkW at h
    cases h
  | .fz _, X, W, S, t, e, C, h => by
    unfold chkW at h
    cases h
  | .th _, X, W, S, t, e, C, h => by
    unfold chkW at h
    cases h
  | .sub _ _, X, W, S, t, e, C, h => by
    unfold chkW at h
    cases h
  | .slc _ _ _, X, W, S, t, e, C, h => by
    unfold chkW at h
    cases h
  | .call _ _, X, W, S, t, e, C, h => by
    unfold chkW at h
    cases h
  | .callv _ _, X, W, S, t, e, C, h => by
    unfold chkW at h
    cases h
  | .mk _ _, X, W, S, t, e, C, h => by
    unfold chkW at h
    cases h
  | .bif _ _, X, W, S, t, e, C, h => by
    unfold chkW at h
    cases h
  | .mth _ _ _, X, W, S, t, e, C, h => by
    unfold chkW at h
    cases h
  | .ocmp _ _ _, X, W, S, t, e, C, h => by
    unfold chkW at h
    cases h
  | .isown _ _, X, W, S, t, e, C, h => by
    unfold chkW at h
    cases h
  | .attr _ _, X, W, S, t, e, C, h => by
    unfold chkW at h
    cases h
  | .rev _, X, W, S, t, e, C, h => by
    unfold chkW at h
    cases h
  | .dnew, X, W, S, t, e, C, h => by
    unfold chkW at h
    cases h
  | .dz, X, W, S, t, e, C, h => by
    unfold chkW at h
    cases h
  | .rpr _, X, W, S, t, e, C, h => by
    unfold chkW at h
    cases h
  | .lamc _ _, X, W, S, t, e, C, h => by
    unfold chkW at h
    cases h
  | .callg _ _, X, W, S, t, e, C, h => by
    unfold chkW at h
    cases h
  | .trg _, X, W, S, t, e, C, h => by
    unfold chkW at h
    cases h
  | .lrg _, X, W, S, t, e, C, h => by
    unfold chkW at h
    cases h
  | .anil, X, W, S, t, e, C, h => by
    unfold chkW at h
    cases h
  | .acons _ _, X, W, S, t, e, C, h => by
    unfold chkW at h
    cases h
  | .astar _ _, X, W, S, t, e, C, h => by
    unfold chkW at h
    cases h
  | .disp _, X, W, S, t, e, C, h => by
    unfold chkW at h
    cases h
  | .comp _ _ _ _ _, X, W, S, t, e, C, h => by
    unfold chkW at h
    cases h
  | .listof _, X, W, S, t, e, C, h => by
    unfold chkW at h
    cases h
  | .srt _ _, X, W, S, t, e, C, h => by
    unfold chkW at h
    cases h
  | .cat _ _, X, W, S, t, e, C, h => by
    unfold chkW at h
    cases h
  | .rep _ _, X, W, S, t, e, C, h => by
    unfold chkW at h
    cases h
  | .slf _ _ _, X, W, S, t, e, C, h => by
    unfold chkW at h
    cases h
  | .noe, X, W, S, t, e, C, h => by
    unfold chkW at h
    cases h
  | .sm _, X, W, S, t, e, C, h => by
    unfold chkW at h
    cases h
theorem sndO (V : Lv Γ G D cf k) : ∀ (x : Ex) {X : Cx} {W : WX} {S : Sc} {o : Option Expr}, Cs X Γ W k S → chkO D S x o = true → PO X o (tO' Γ W (evO G cf x))
  | .noe, X, W, S, o, C, h => by
    unfold chkO at h
    split at h
    · exact o_none
    · cases h
  | .sm a, X, W, S, o, C, h => by
    unfold chkO at h
    split at h
    · exact o_some (sndE V a C h).1
    · cases h
  | .var _, X, W, S, o, C, h => by
    unfold chkO at h
    cases h
  | .int _, X, W, S, o, C, h => by
    unfold chkO at h
    cases h
  | .bl _, X, W, S, o, C, h => by
    unfold chkO at h
    cases h
  | .non, X, W, S, o, C, h => by
    unfold chkO at h
    cases h
  | .str _, X, W, S, o, C, h => by
    unfold chkO at h
    cases h
  | .gl _, X, W, S, o, C, h => by
    unfold chkO at h
    cases h
  | .bin _ _ _, X, W, S, o, C, h => by
    unfold chkO at h
    cases h
  | .neg _, X, W, S, o, C, h => by
    unfold chkO at h
    cases h
  | .cmp _ _ _, X, W, S, o, C, h => by
    unfold chkO at h
    cases h
  | .chain _ _ _ _ _, X, W, S, o, C, h => by
    unfold chkO at h
    cases h
  | .and _ _, X, W, S, o, C, h => by
    unfold chkO at h
    cases h
  | .or _ _, X, W, S, o, C, h => by
    unfold chkO at h
    cases h
  | .not _, X, W, S, o, C, h => by
    unfold chkO at h
    cases h
  | .ite _ _ _, X, W, S, o, C, h => by
    unfold chkO at h
    cases h
  | .tup _, X, W, S, o, C, h => by
    unfold chkO at h
    cases h
  | .fz _, X, W, S, o, C, h => by
    unfold chkO at h
    cases h
  | .th _, X, W, S, o, C, h => by
    unfold chkO at h
    cases h
  | .sub _ _, X, W, S, o, C, h => by
    unfold chkO at h
    cases h
  | .slc _ _ _, X, W, S, o, C, h => by
    unfold chkO at h
    cases h
  | .call _ _, X, W, S, o, C, h => by
    unfold chkO at h
    cases h
  | .callv _ _, X, W, S, o, C, h => by
    unfold chkO at h
    cases h
  | .mk _ _, X, W, S, o, C, h => by
    unfold chkO at h
    cases h
  | .bif _ _, X, W, S, o, C, h => by
    unfold chkO at h
    cases h
  | .mth _ _ _, X, W, S, o, C, h => by
    unfold chkO at h
    cases h
  | .ocmp _ _ _, X, W, S, o, C, h => by
    unfold chkO at h
    cases h
  | .isown _ _, X, W, S, o, C, h => by
    unfold chkO at h
    cases h
  | .attr _ _, X, W, S, o, C, h => by
    unfold chkO at h
    cases h
  | .rev _, X, W, S, o, C, h => by
    unfold chkO at h
    cases h
  | .dnew, X, W, S, o, C, h => by
    unfold chkO at h
    cases h
  | .dz, X, W, S, o, C, h => by
    unfold chkO at h
    cases h
  | .rpr _, X, W, S, o, C, h => by
    unfold chkO at h
    cases h
  | .lamc _ _, X, W, S, o, C, h => by
    unfold chkO at h
    cases h
  | .callg _ _, X, W, S, o, C, h => by
    unfold chkO at h
    cases h
  | .trg _, X, W, S, o, C, h => by
    unfold chkO at h
    cases h
  | .lrg _, X, W, S, o, C, h => by
    unfold chkO at h
    cases h
  | .anil, X, W, S, o, C, h => by
    unfold chkO at h
    cases h
  | .acons _ _, X, W, S, o, C, h => by
    unfold chkO at h
    cases h
  | .astar _ _, X, W, S, o, C, h => by
    unfold chkO at h
    cases h
  | .disp _, X, W, S, o, C, h => by
    unfold chkO at h
    cases h
  | .comp _ _ _ _ _, X, W, S, o, C, h => by
    unfold chkO at h
    cases h
  | .listof _, X, W, S, o, C, h => by
    unfold chkO at h
    cases h
  | .srt _ _, X, W, S, o, C, h => by
    unfold chkO at h
    cases h
  | .cat _ _, X, W, S, o, C, h => by
    unfold chkO at h
    cases h
  | .rep _ _, X, W, S, o, C, h => by
    unfold chkO at h
    cases h
  | .slf _ _ _, X, W, S, o, C, h => by
    unfold chkO at h
    cases h
  | .over _, X, W, S, o, C, h => by
    unfold chkO at h
    cases h
  | .range _, X, W, S, o, C, h => by
    unfold chkO at h
    cases h
  | .enum _, X, W, S, o, C, h => by
    unfold chkO at h
    cases h
  | .zip _ _, X, W, S, o, C, h => by
    unfold chkO at h
    cases h
theorem sndC (V : Lv Γ G D cf k) : ∀ (x : Ex) {X : Cx} {W : WX} {S : Sc} {es : List Expr}, Cs X Γ W k S → chkC D S x es = true → PTs X es (tB' Γ W (evC G cf x))
  | .noe, X, W, S, o, C, h => by
    unfold chkC at h
    split at h
    · exact ts_nil
    · cases h
  | .sm a, X, W, S, o, C, h => by
    unfold chkC at h
    split at h
    · exact pts_one (sndE V a C h).2
    · cases h
  | .var _, X, W, S, o, C, h => by
    unfold chkC at h
    cases h
  | .int _, X, W, S, o, C, h => by
    unfold chkC at h
    cases h
  | .bl _, X, W, S, o, C, h => by
    unfold chkC at h
    cases h
  | .non, X, W, S, o, C, h => by
    unfold chkC at h
    cases h
  | .str _, X, W, S, o, C, h => by
    unfold chkC at h
    cases h
  | .gl _, X, W, S, o, C, h => by
    unfold chkC at h
    cases h
  | .bin _ _ _, X, W, S, o, C, h => by
    unfold chkC at h
    cases h
  | .neg _, X, W, S, o, C, h => by
    unfold chkC at h
    cases h
  | .cmp _ _ _, X, W, S, o, C, h => by
    unfold chkC at h
    cases h
  | .chain _ _ _ _ _, X, W, S, o, C, h => by
    unfold chkC at h
    cases h
  | .and _ _, X, W, S, o, C, h => by
    unfold chkC at h
    cases h
  | .or _ _, X, W, S, o, C, h => by
    unfold chkC at h
    cases h
  | .not _, X, W, S, o, C, h => by
    unfold chkC at h
    cases h
  | .ite _ _ _, X, W, S, o, C, h => by
    unfold chkC at h
    cases h
  | .tup _, X, W, S, o, C, h => by
    unfold chkC at h
    cases h
  | .fz _, X, W, S, o, C, h => by
    unfold chkC at h
    cases h
  | .th _, X, W, S, o, C, h => by
    unfold chkC at h
    cases h
  | .sub _ _, X, W, S, o, C, h => by
    unfold chkC at h
    cases h
  | .slc _ _ _, X, W, S, o, C, h => by
    unfold chkC at h
    cases h
  | .call _ _, X, W, S, o, C, h => by
    unfold chkC at h
    cases h
  | .callv _ _, X, W, S, o, C, h => by
    unfold chkC at h
    cases h
  | .mk _ _, X, W, S, o, C, h => by
    unfold chkC at h
    cases h
  | .bif _ _, X, W, S, o, C, h => by
    unfold chkC at h
    cases h
  | .mth _ _ _, X, W, S, o, C, h => by
    unfold chkC at h
    cases h
  | .ocmp _ _ _, X, W, S, o, C, h => by
    unfold chkC at h
    cases h
  | .isown _ _, X, W, S, o, C, h => by
    unfold chkC at h
    cases h
  | .attr _ _, X, W, S, o, C, h => by
    unfold chkC at h
    cases h
  | .rev _, X, W, S, o, C, h => by
    unfold chkC at h
    cases h
  | .dnew, X, W, S, o, C, h => by
    unfold chkC at h
    cases h
  | .dz, X, W, S, o, C, h => by
    unfold chkC at h
    cases h
  | .rpr _, X, W, S, o, C, h => by
    unfold chkC at h
    cases h
  | .lamc _ _, X, W, S, o, C, h => by
    unfold chkC at h
    cases h
  | .callg _ _, X, W, S, o, C, h => by
    unfold chkC at h
    cases h
  | .trg _, X, W, S, o, C, h => by
    unfold chkC at h
    cases h
  | .lrg _, X, W, S, o, C, h => by
    unfold chkC at h
    cases h
  | .anil, X, W, S, o, C, h => by
    unfold chkC at h
    cases h
  | .acons _ _, X, W, S, o, C, h => by
    unfold chkC at h
    cases h
  | .astar _ _, X, W, S, o, C, h => by
    unfold chkC at h
    cases h
  | .disp _, X, W, S, o, C, h => by
    unfold chkC at h
    cases h
  | .comp _ _ _ _ _, X, W, S, o, C, h => by
    unfold chkC at h
    cases h
  | .listof _, X, W, S, o, C, h => by
    unfold chkC at h
    cases h
  | .srt _ _, X, W, S, o, C, h => by
    unfold chkC at h
    cases h
  | .cat _ _, X, W, S, o, C, h => by
    unfold chkC at h
    cases h
  | .rep _ _, X, W, S, o, C, h => by
    unfold chkC at h
    cases h
  | .slf _ _ _, X, W, S, o, C, h => by
    unfold chkC at h
    cases h
  | .over _, X, W, S, o, C, h => by
    unfold chkC at h
    cases h
  | .range _, X, W, S, o, C, h => by
    unfold chkC at h
    cases h
  | .enum _, X, W, S, o, C, h => by
    unfold chkC at h
    cases h
  | .zip _ _, X, W, S, o, C, h => by
    unfold chkC at h
    cases h
end
end
end Mi
set_option Elab.async false
set_option linter.all false
set_option maxRecDepth 100000
set_option maxHeartbeats 4000000
namespace Mi
open PySem PySem.Spec PyProof.Rows L2
def swB (S : Sc) (x : Str) (p : Pos) (e : Expr) : Bool := match e with
  | .ListComp _ _ scope lp => plB S x && p.line == lp.line && !(scope.names.any fun (n, k) => n == x && (k == .local || k == .cell))
  | _ => false
theorem swaps_lc {elt : Expr} {gens : List Comprehension} {scope : Scope} {lp p : Pos} {x : Str} {l : Nat} {env : PySem.Env} (hk : env.scope.kind = .function) :
    swapsWith (.ListComp elt gens scope lp) (some (.Name x p)) l env = pure (env.kindOf x == some .local && p.line == lp.line && !(scope.names.any fun (n, k) => n == x && (k == .local || k == .cell))) := by
  have hb : env.blockKind = .function := by
    unfold Env.blockKind
    rw [hk]
    rfl
  unfold swapsWith
  dsimp only
  rw [hb]
  rfl
theorem execs_one {st : Stmt} {env : PySem.Env} : execs [st] env = exec st env := by
  have e : execs [st] env = (exec st env >>= fun f => pure f) := by
    rw [execs_cons]
    congr 1
    funext f
    cases f <;> rfl
  rw [e]
  exact bind_pure _
theorem ps_of {X : Cx} {st : Stmt} {t : TS} (h : PSs X [st] t) : PS X st t := ⟨fun pins s σ H D I q => by
  have z := h.run pins s σ H D I q
  rw [execs_one] at z
  exact z⟩
theorem plB_eq {S : Sc} {x : Str} {env : PySem.Env} (h : env.scope = S.sc) : (env.kindOf x == some .local) = plB S x := by
  unfold plB Env.kindOf
  rw [h]
  cases S.sc.names.lookup x with
  | none => rfl
  | some k => cases k <;> rfl
theorem swaps_swB {S : Sc} {elt : Expr} {gens : List Comprehension} {scope : Scope} {lp p : Pos} {x : Str} {l : Nat} {env : PySem.Env} (hk : env.scope.kind = .function) (e : env.scope = S.sc) :
    swapsWith (.ListComp elt gens scope lp) (some (.Name x p)) l env = pure (swB S x p (.ListComp elt gens scope lp)) := by
  rw [swaps_lc hk, plB_eq e]
  rfl
def isNames2 (S : Sc) (is : List Nat) (ts : List Expr) (n : Nat) : Bool := match is, ts with
  | [i, j], [.Name x _, .Name y _] => n == 2 && decide (i ≠ j) && plB S x && plB S y && slB S i x && slB S j y && decide (swNames S.sc (lineOf ts) ts = [x, y])
  | [i, j, l], [.Name x _, .Name y _, .Name z _] => n == 3 && decide (i ≠ j) && decide (i ≠ l) && decide (j ≠ l) && plB S x && plB S y && plB S z && slB S i x && slB S j y && slB S l z && decide (swNames S.sc (lineOf ts) ts = [x, y, z])
  | _, _ => false
def chkAts (D : Nm) (S : Sc) (o : Nat) : List Nat → List Expr → Bool
  | [], [] => true
  | f :: fs, .Attribute o' x _ :: ts => decide (D.ats.lookup x = some f) && chkE D S (.var o) o' && chkAts D S o fs ts
  | _, _ => false
def isTxt : Expr → Bool
  | .Constant (.str _) _ _ => true
  | _ => false
def isMsg : Ex → Bool
  | .acons (.str _) .anil => true
  | _ => false
def isFn (k : ScopeKind) : Bool := match k with
  | .function => true
  | _ => false
def chkS (D : Nm) (S : Sc) : St → List Stmt → Bool
  | .skip => fun l => match l with
    | [] => true
    | [.Pass _] => true
    | [.Expr (.Constant (.str _) _ _) _] => true
    | _ => false
  | .never => fun l => match l with
    | [_] => true
    | _ => false
  | .seq a b => fun l => match l with
    | s :: t :: r => chkS D S a [s] && chkS D S b (t :: r)
    | _ => false
  | .ex e => fun l => match l with
    | [.Expr e' _] => chkE D S e e' && !isLC e'
    | _ => false
  | .set i e => fun l => match l with
    | [.Assign [.Name x p] e' _] => slB S i x && locB S x && chkE D S e e' && (!isLC e' || (match e' with
      | .ListComp _ _ _ _ => (!swB S x p e') || (match e with
        | .fz f => chkF D S f e' && (match f with | .comp _ _ _ _ _ => true | _ => false)
        | .th f => chkF D S f e' && (match f with | .comp _ _ _ _ _ => true | _ => false)
        | _ => false)
      | _ => false))
    | _ => false
  | .par is as => fun l => match l with
    | [.Assign [.Tuple ts _ _] (.Tuple vs _ _) _] => chkTs S is ts && chkA D S as vs && decide (is.length ≤ 1000) && (decide (swK S.sc ts vs = 0) || (decide (swK S.sc ts vs = 1) && isNames2 S is ts vs.length))
    | _ => false
  | .unp is e => fun l => match l with
    | [.Assign [.Tuple ts _ _] e' _] => chkTs S is ts && chkE D S e e' && (!isTup e' || (match e' with
      | .Tuple vs _ _ => decide (swK S.sc ts vs = 0)
      | _ => false))
    | _ => false
  | .aug i o e => fun l => match l with
    | [.AugAssign (.Name x _) p e' _] => slB S i x && locB S x && opB o p && chkE D S e e'
    | _ => false
  | .sets o i e => fun l => match l with
    | [.Assign [.Subscript o' i' _] e' _] => chkE D S e e' && chkE D S o o' && chkE D S i i' && !isLC e' && !isTup e' && !isSlice i'
    | _ => false
  | .augs o i b e => fun l => match l with
    | [.AugAssign (.Subscript o' i' _) p e' _] => opB b p && chkE D S e e' && chkE D S o o' && chkE D S i i' && !isSlice i'
    | _ => false
  | .setf o f e => fun l => match l with
    | [.Assign [.Attribute o' x _] e' _] => decide (D.ats.lookup x = some f) && chkE D S e e' && chkE D S o o' && !isLC e' && !isTup e'
    | _ => false
  | .parf o fs as => fun l => match l with
    | [.Assign [.Tuple ts _ _] (.Tuple vs _ _) _] => chkAts D S o fs ts && chkA D S as vs && decide (fs.length ≤ 1000) && decide (swK S.sc ts vs = 0)
    | _ => false
  | .ifs c a b => fun l => match l with
    | [.If c' as bs _] => chkE D S c c' && chkS D S a as && chkS D S b bs
    | _ => false
  | .fors tg it b => fun l => match l with
    | [.For t it' body [] _] => chkT S tg t && chkW D S it t it' && chkS D S b body && noSet it'
    | _ => false
  | .whiles c b => fun l => match l with
    | [.While c' body [] _] => chkE D S c c' && chkS D S b body
    | _ => false
  | .ret e => fun l => match l with
    | [.Return (some e') _] => chkE D S e e'
    | [.Return none _] => match e with
      | .non => true
      | _ => false
    | _ => false
  | .brk => fun l => match l with
    | [.Break _] => true
    | _ => false
  | .cnt => fun l => match l with
    | [.Continue _] => true
    | _ => false
  | .raise c as => fun l => match l with
    | [.Raise (some (.Call (.Name x _) [a] [] _)) none _] => match D.exs.lookup x with
      | some (d, f) => decide (c = d) && glB S x && okNm x && (match f with
        | some _ => !isStar a && chkA D S as [a]
        | none => isMsg as && isTxt a)
      | none => false
    | _ => false
section
variable {Γ : Gm} {G : GT} {D : Nm} {cf : CF} {k : Nat}
theorem set_comp (V : Lv Γ G D cf k) {X : Cx} {W : WX} {S : Sc} (C : Cs X Γ W k S) (w : Bool) {i : Nat} {x : Str} {py spos : Pos} {own : List Nat} {tg : Tg} {it c el : Ex} {e : Expr} (hk : X.env.scope.kind = .function) (hi : slB S i x = true) (hsw : swB S x py e = true) (h : chkF D S (.comp own tg it c el) e = true) :
    PS X (.Assign [.Name x py] e spos) (tS Γ W fun env h => bnd (bnd (evF G cf (.comp own tg it c el) env h) (keepR w)) (asgR (.n i) env)) := by
  unfold chkF at h
  split at h
  · rename_i elt target iter ifs scope lp
    have hl : plB S x = true := by
      unfold swB at hsw
      simp only [Bool.and_eq_true] at hsw
      exact hsw.1.1
    simp only [Bool.and_eq_true] at h
    obtain ⟨⟨⟨⟨⟨⟨⟨h1, h2⟩, h3⟩, h4⟩, h5⟩, h6⟩, h7⟩, h8⟩ := h
    have h1 := of_decide_eq_true h1
    obtain ⟨g, hg⟩ := tg_of (Γ := Γ) (k := k) h5
    have z := s_setLc (w := w) (own := ownP S own) (pos := lp) (py := py) (spos := spos) C.c (sl_of C hi) (pl_of C hl) (by rw [swaps_swB hk C.sc, hsw]) (sndW V it C h6) (by rw [C.N, C.sc]; exact blkOk_by h2) (fun s H A cl fp => hg _ _ (C.blk _ s H A cl fp)) (fun s H A cl fp => sndC V c (C.blk _ s H A cl fp) h7) (fun s H A cl fp => (sndE V el (C.blk _ s H A cl fp) h8).1) (by rw [h1]; exact tgIn_of h3) (noSet_fold h4)
    rw [h1] at z
    exact z
  · cases h
theorem ats_many (V : Lv Γ G D cf k) {o : Nat} : ∀ {fs : List Nat} {ts : List Expr} {S : Sc}, chkAts D S o fs ts = true → ∃ xs, Paired (fun x f => D.ats.lookup x = some f) xs fs ∧ ts.length = fs.length ∧ noStars ts = true ∧
    ∀ (X : Cx) (W : WX), Cs X Γ W k S → PGs X ts (gAtts X.K (tE Γ W fun env h => match env[o]? with
      | some (some v) => .ok v h
      | _ => .bad) xs)
  | [], [], S, _ => ⟨[], .nil, rfl, rfl, fun X W C => pgs_nil⟩
  | [], _ :: _, S, h => by
    unfold chkAts at h
    cases h
  | _ :: _, [], S, h => by
    unfold chkAts at h
    cases h
  | f :: fs, t :: ts, S, h => by
    unfold chkAts at h
    split at h
    · rename_i h0 _
      cases h0
    · rename_i f' fs' o' x ap ts' e1 e2
      cases e1
      cases e2
      simp only [Bool.and_eq_true] at h
      obtain ⟨⟨h1, h2⟩, h3⟩ := h
      obtain ⟨xs, a1, a2, a3, a4⟩ := ats_many V h3
      refine ⟨x :: xs, .cons (of_decide_eq_true h1) a1, congrArg (· + 1) a2, ?_, fun X W C => pgs_cons (pg_att (sndE V (.var o) C h2).1) (a4 X W C) rfl⟩
      unfold noStars
      exact a3
    · cases h
theorem sndS (V : Lv Γ G D cf k) {X : Cx} {W : WX} {S : Sc} (C : Cs X Γ W k S) (hk : X.env.scope.kind = .function) (hp : PassesOwn (model X.prog X.w) X.A X.env X.xe) : ∀ (x : St) {l : List Stmt}, chkS D S x l = true → PSs X l (tS Γ W (evS G cf x))
  | .skip, l, h => by
    unfold chkS at h
    split at h
    · exact ss_nil
    · exact ss_one (s_skip ps_pass)
    · exact ss_one (s_skip ps_doc)
    · cases h
  | .never, l, h => by
    unfold chkS at h
    split at h
    · exact ss_one ⟨fun pins s σ H D I ⟨_, _, _, _, _, _, k⟩ => k.elim⟩
    · cases h
  | .seq a b, l, h => by
    have qa := fun {l} => sndS V C hk hp a (l := l)
    have qb := fun {l} => sndS V C hk hp b (l := l)
    unfold chkS at h
    split at h
    · rw [Bool.and_eq_true] at h
      exact ss_cons (ps_of (qa h.1)) (qb h.2)
    · cases h
  | .ex e, l, h => by
    unfold chkS at h
    split at h
    · simp only [Bool.and_eq_true, Bool.not_eq_true'] at h
      exact ss_one (s_expr (sndE V e C h.1).1 h.2)
    · cases h
  | .set i e, l, h => by
    unfold chkS at h
    split at h
    · rename_i x p e' pos
      simp only [Bool.and_eq_true] at h
      obtain ⟨⟨⟨h1, h2⟩, h3⟩, h4⟩ := h
      obtain ⟨a, b⟩ := loc_of C h2
      rw [Bool.or_eq_true] at h4
      rcases h4 with h4 | h4
      · exact ss_one (s_set C.c (sl_of C h1) a b (sndE V e C h3).1 (swaps_no (by simpa using h4)))
      · split at h4
        · rename_i elt gens scope lp
          rw [Bool.or_eq_true] at h4
          by_cases hs : swB S x p (.ListComp elt gens scope lp) = true
          · rcases h4 with h4 | h4
            · rw [hs] at h4
              cases h4
            · split at h4
              · rename_i f
                rw [Bool.and_eq_true] at h4
                obtain ⟨h5, h6⟩ := h4
                split at h6
                · exact ss_one (set_comp V C false hk h1 hs h5)
                · cases h6
              · rename_i f
                rw [Bool.and_eq_true] at h4
                obtain ⟨h5, h6⟩ := h4
                split at h6
                · exact ss_one (set_comp V C true hk h1 hs h5)
                · cases h6
              · cases h4
          · refine ss_one (s_set C.c (sl_of C h1) a b (sndE V e C h3).1 ?_)
            rw [swaps_swB hk C.sc]
            have hs : swB S x p (.ListComp elt gens scope lp) = false := by simpa using hs
            rw [hs]
        · cases h4
    · cases h
  | .par is as, l, h => by
    unfold chkS at h
    split at h
    · rename_i ts k1 p1 vs k2 p2 pos
      simp only [Bool.and_eq_true] at h
      obtain ⟨⟨⟨h1, h2⟩, h3⟩, h4⟩ := h
      have qa := sndA V as C h2
      obtain ⟨sw0, sw1⟩ := sw_eq (ts := ts) (vs := vs) (k := k1) (k2 := k2) (p := p1) (p2 := p2) hk
      rw [C.sc] at sw0 sw1
      rw [Bool.or_eq_true] at h4
      rcases h4 with h4 | h4
      · obtain ⟨g, g1, g2, g3⟩ := tg_many (Γ := Γ) (k := k) h1
        exact ss_one (s_parA C.c (g1 X W C) g2 g3 (of_decide_eq_true h3) qa (sw0 (of_decide_eq_true h4)))
      · rw [Bool.and_eq_true] at h4
        have sw := sw1 (of_decide_eq_true h4.1)
        have h5 := h4.2
        unfold isNames2 at h5
        split at h5
        · simp only [Bool.and_eq_true] at h5
          obtain ⟨⟨⟨⟨⟨⟨a1, a2⟩, a3⟩, a4⟩, a5⟩, a6⟩, a7⟩ := h5
          rw [of_decide_eq_true a7] at sw
          match vs, qa, a1, sw with
          | [v1, v2], qa, _, sw => exact ss_one (s_par2 C.c (sl_of C a5) (sl_of C a6) (of_decide_eq_true a2) (pl_of C a3) (pl_of C a4) qa sw)
          | [], _, a1, _ => simp at a1
          | [_], _, a1, _ => simp at a1
          | _ :: _ :: _ :: _, _, a1, _ => simp at a1
        · simp only [Bool.and_eq_true] at h5
          obtain ⟨⟨⟨⟨⟨⟨⟨⟨⟨⟨a1, a2⟩, a3⟩, a4⟩, a5⟩, a6⟩, a7⟩, a8⟩, a9⟩, b1⟩, b2⟩ := h5
          rw [of_decide_eq_true b2] at sw
          match vs, qa, a1, sw with
          | [v1, v2, v3], qa, _, sw => exact ss_one (s_par3 C.c (sl_of C a8) (sl_of C a9) (sl_of C b1) (of_decide_eq_true a2) (of_decide_eq_true a3) (of_decide_eq_true a4) (pl_of C a5) (pl_of C a6) (pl_of C a7) qa sw)
          | [], _, a1, _ => simp at a1
          | [_], _, a1, _ => simp at a1
          | [_, _], _, a1, _ => simp at a1
          | _ :: _ :: _ :: _ :: _, _, a1, _ => simp at a1
        · cases h5
    · cases h
  | .unp is e, l, h => by
    unfold chkS at h
    split at h
    · rename_i ts k1 p1 e' pos
      simp only [Bool.and_eq_true] at h
      obtain ⟨⟨h1, h2⟩, h3⟩ := h
      obtain ⟨g, g1, g2, g3⟩ := tg_many (Γ := Γ) (k := k) h1
      have qe := (sndE V e C h2).1
      have hg := tg_tup C.c (g1 X W C) g2 g3 (k := k1) (pos := p1)
      rw [Bool.or_eq_true] at h3
      rcases h3 with h3 | h3
      · exact ss_one (s_asg qe hg swaps_tup (swapped_no (by simpa using h3)) rfl)
      · split at h3
        · rename_i vs k2 p2
          obtain ⟨sw0, sw1⟩ := sw_eq (ts := ts) (vs := vs) (k := k1) (k2 := k2) (p := p1) (p2 := p2) hk
          rw [C.sc] at sw0 sw1
          exact ss_one (s_asg qe hg swaps_tup (sw0 (of_decide_eq_true h3)) rfl)
        · cases h3
    · cases h
  | .aug i o e, l, h => by
    unfold chkS at h
    split at h
    · simp only [Bool.and_eq_true] at h
      obtain ⟨⟨⟨h1, h2⟩, h3⟩, h4⟩ := h
      obtain ⟨a, b⟩ := loc_of C h2
      cases opB_eq h3
      exact ss_one (s_aug C.c (sl_of C h1) a b (sndE V e C h4).1)
    · cases h
  | .sets o i e, l, h => by
    unfold chkS at h
    split at h
    · simp only [Bool.and_eq_true, Bool.not_eq_true'] at h
      obtain ⟨⟨⟨⟨⟨h1, h2⟩, h3⟩, h4⟩, h5⟩, h6⟩ := h
      exact ss_one (s_sets C.c (sndE V e C h1).1 (sndE V o C h2).1 (sndE V i C h3).1 h4 h5 h6)
    · cases h
  | .augs o i b e, l, h => by
    unfold chkS at h
    split at h
    · simp only [Bool.and_eq_true, Bool.not_eq_true'] at h
      obtain ⟨⟨⟨⟨h1, h2⟩, h3⟩, h4⟩, h5⟩ := h
      cases opB_eq h1
      exact ss_one (s_augs C.c (sndE V e C h2).1 (sndE V o C h3).1 (sndE V i C h4).1 h5)
    · cases h
  | .setf o f e, l, h => by
    unfold chkS at h
    split at h
    · simp only [Bool.and_eq_true, Bool.not_eq_true'] at h
      obtain ⟨⟨⟨⟨h1, h2⟩, h3⟩, h4⟩, h5⟩ := h
      exact ss_one (s_setf C.c V.kl (of_decide_eq_true h1) (sndE V e C h2).1 (sndE V o C h3).1 h4 h5)
    · cases h
  | .parf o fs as, l, h => by
    unfold chkS at h
    split at h
    · rename_i ts k1 p1 vs k2 p2 pos
      simp only [Bool.and_eq_true] at h
      obtain ⟨⟨⟨h1, h2⟩, h3⟩, h4⟩ := h
      obtain ⟨xs, a1, a2, a3, a4⟩ := ats_many V h1
      obtain ⟨sw0, _⟩ := sw_eq (ts := ts) (vs := vs) (k := k1) (k2 := k2) (p := p1) (p2 := p2) hk
      rw [C.sc] at sw0
      exact ss_one (s_parf C.c V.kl a1 (a4 X W C) a2 a3 (of_decide_eq_true h3) (sndA V as C h2) (sw0 (of_decide_eq_true h4)))
    · cases h
  | .ifs c a b, l, h => by
    have qa := fun {l} => sndS V C hk hp a (l := l)
    have qb := fun {l} => sndS V C hk hp b (l := l)
    unfold chkS at h
    split at h
    · simp only [Bool.and_eq_true] at h
      obtain ⟨⟨h1, h2⟩, h3⟩ := h
      exact ss_one (s_if (sndE V c C h1).2 (qa h2) (qb h3))
    · cases h
  | .fors tg it b, l, h => by
    have qb := fun {l} => sndS V C hk hp b (l := l)
    unfold chkS at h
    split at h
    · simp only [Bool.and_eq_true] at h
      obtain ⟨⟨⟨h1, h2⟩, h3⟩, h4⟩ := h
      obtain ⟨g, hg⟩ := tg_of (Γ := Γ) (k := k) h1
      exact ss_one (s_for C.c hp (sndW V it C h2) (hg X W C) (qb h3) (noSet_fold h4))
    · cases h
  | .whiles c b, l, h => by
    have qb := fun {l} => sndS V C hk hp b (l := l)
    unfold chkS at h
    split at h
    · simp only [Bool.and_eq_true] at h
      exact ss_one (s_while C.c hp (sndE V c C h.1).2 (qb h.2))
    · cases h
  | .ret e, l, h => by
    unfold chkS at h
    split at h
    · exact ss_one (s_ret (sndE V e C h).1)
    · split at h
      · exact ss_one s_retN
      · cases h
    · cases h
  | .brk, l, h => by
    unfold chkS at h
    split at h
    · exact ss_one s_brk
    · cases h
  | .cnt, l, h => by
    unfold chkS at h
    split at h
    · exact ss_one s_cnt
    · cases h
  | .raise c as, l, h => by
    unfold chkS at h
    split at h
    · rename_i x p a p2 pos
      split at h
      · rename_i d f hx
        simp only [Bool.and_eq_true] at h
        obtain ⟨⟨⟨h1, h2⟩, h3⟩, h4⟩ := h
        have h1 := of_decide_eq_true h1
        subst h1
        obtain ⟨e1, e2⟩ := V.xm _ _ _ hx
        have hm := V.ek.nm _ _ _ hx
        cases f with
        | some fl =>
          simp only [Bool.and_eq_true, Bool.not_eq_true'] at h4
          obtain ⟨h4, h5⟩ := h4
          obtain ⟨evs, q1, q2⟩ := sndX V as C (es := [a]) (by unfold noStars; rw [h4]; rfl) h5
          cases evs with
          | nil => exact q1.elim
          | cons ea r => cases r with
            | cons _ _ => exact q1.2.elim
            | nil =>
              have z : evS G cf (.raise c as) = fun env h => bnd (ea env h) fun v h => .exc c (some v) h := by
                funext env h
                show (bnd (evA G cf as env h) fun vs h => match vs with
                  | [v] => match G.exk c with
                    | some true => .exc c (some v) h
                    | some false => .exc c none h
                    | none => .bad
                  | _ => .bad) = _
                rw [q2, e2]
                unfold argsEv argsEv
                cases ea env h <;> rfl
              rw [z]
              have hr : Room (k - 1 + 1) X.A := by
                have := V.k1
                rw [Nat.sub_add_cancel this]
                exact C.hr
              exact ss_one (s_raiseK C.c hr e1 (gl_of C h2) hm (nm_of h3).1 q1.1 h4)
        | none =>
          dsimp only at h4
          rw [Bool.and_eq_true] at h4
          obtain ⟨h4, h5⟩ := h4
          unfold isMsg at h4
          split at h4
          · rename_i s0
            unfold isTxt at h5
            split at h5
            · have z : evS G cf (.raise c (.acons (.str s0) .anil)) = fun _ h => .exc c none h := by
                funext env h
                show (match G.exk c with
                    | some true => R.exc c (some (.str s0)) h
                    | some false => R.exc c none h
                    | none => R.bad) = _
                rw [e2]
                rfl
              rw [z]
              exact ss_one (s_raiseM C.c e1 (gl_of C h2) hm (nm_of h3).1)
            · cases h5
          · cases h4
      · cases h
    · cases h
end
end Mi
set_option Elab.async false
set_option linter.all false
set_option maxRecDepth 100000
set_option maxHeartbeats 400000
namespace Mi
open PySem PySem.Spec PyProof.Rows L2
structure DefOk (Γ : Gm) (D : Nm) (d : FD) (a : Addr) : Prop where
  ex : ∃ x qual st fd N ps, Fun Γ.K x qual st a fd ∧ FnScope N ps (defScope st) ∧ Binds Γ.K fd ps [] ∧ ps.length = d.ar ∧ N.length = d.sl ∧ chkS D (Sc.top N (defScope st)) d.body (defBody st) = true
structure Tb (Γ : Gm) (G : GT) (D : Nm) (ft : Nat → Option FD) : Prop where
  fn : ∀ x f, D.fns.lookup x = some f → Γ.mg x = some (.ref (Γ.fa f))
  gv : ∀ x g, D.gvs.lookup x = some g → ∃ v u w, G.gv g = some v ∧ Γ.mg x = some w ∧ RelV u w ∧ ∀ L m H, RepV Γ L m H v u
  nb : ∀ x, x ∈ bNames → Γ.mg x = none
  ow : ∀ c, Γ.cok c = true → OwnOk Γ c
  df : ∀ f d, ft f = some d → DefOk Γ D d (Γ.fa f)
  kl : Kl Γ G D.ats
  ke : ∀ c, Γ.cok c = true → KlEq Γ G c
  km : ∀ x c, D.cls.lookup x = some c → Γ.mg x = some (.ref (Γ.ca c)) ∧ PySem.W.keepIn Γ.K (.ref (Γ.ca c)) = true ∧ KlMk Γ G c ∧ KlIs Γ c
  ek : ExK Γ D.exs
  xm : ∀ x c f, D.exs.lookup x = some (c, f) → ExMk Γ c f ∧ G.exk c = some f.isSome
  mt : ∀ f M, G.met f = some M → MetOk Γ D.exs f M ∧ PySem.W.keepIn Γ.K (.ref (Γ.fa f)) = true
  fgn : ∀ x f, D.fng.lookup x = some f → Γ.mg x = some (.ref (Γ.fa f))
  no : ∀ f, ft f = none → PySem.W.keepIn Γ.K (.ref (Γ.fa f)) = true ∧ ∃ fd ps, Binds Γ.K fd ps []
theorem start_rep {Γ : Gm} {L m : List Addr} {H : Hp} {args : List Vl} {vs : List V} {N : List Str} {n : Nat} (r : RepL Γ L m H args vs) (hn : N.length = n) : RepE Γ L m H (args.map some ++ List.replicate (n - args.length) none) (L2.start N vs) := by
  unfold L2.start
  rw [← r.length, hn]
  refine ⟨by simp only [List.length_append, List.length_map, List.length_replicate, r.length], fun i v e => ?_⟩
  by_cases hi : i < args.length
  · rw [List.getElem?_append_left (by rw [List.length_map]; exact hi)] at e
    rw [List.getElem?_map] at e
    cases ha : args[i]? with
    | none => rw [ha] at e; cases e
    | some w =>
      rw [ha] at e
      cases Option.some.inj (Option.some.inj e)
      obtain ⟨u, h1, h2⟩ := r.get ha
      refine ⟨u, ?_, h2⟩
      rw [List.getElem?_append_left (by rw [List.length_map, ← r.length]; exact hi), List.getElem?_map, h1]
      rfl
  · rw [List.getElem?_append_right (by rw [List.length_map]; omega)] at e
    have := List.mem_of_getElem? e
    rw [List.mem_replicate] at this
    cases this.2
theorem fnS {Γ : Gm} {G : GT} {D : Nm} {ft : Nat → Option FD} {n f : Nat} {d : FD} {x qual : Str} {st : Stmt} {fd : FuncData} {N ps : List Str} (V : Lv Γ G D (run G ft n) (4 * n + 1)) (hf : ft f = some d) (F : Fun Γ.K x qual st (Γ.fa f) fd) (S : FnScope N ps (defScope st)) (h3 : ps.length = d.ar) (h4 : N.length = d.sl)
    (h5 : chkS D (Sc.top N (defScope st)) d.body (defBody st) = true) : FnOk Γ.P Γ.w Γ.K Γ.mg Γ.base (L2.CX Γ.P Γ.w) (4 * n + 4) (Γ.fa f) fd ps (spC Γ (run G ft (n + 1)) f) := by
  have open_ : ∀ {vs H Q E}, spC Γ (run G ft (n + 1)) f vs H Q E → ∃ L m h args, RepH Γ L m h H ∧ RepL Γ L m H args vs ∧ args.length = d.ar ∧ okG Γ (fun c d _ H' => E c d H') L m H [] (fun m' H' => RepV Γ L m' H') (endF d.frz h.length (evS G (run G ft n) d.body (args.map some ++ List.replicate (d.sl - d.ar) none) h)) Q := fun ⟨L, m, h, args, rh, ra, k⟩ => by
    unfold run at k
    rw [hf] at k
    dsimp only at k
    split at k
    · rename_i hl
      exact ⟨L, m, h, args, rh, ra, of_decide_eq_true hl, k⟩
    · exact k.elim
  refine Fun.okX (k := 4 * n + 3) F S (fun vs H Q E z => ?_) fun cdv A outer s H vs Q E hr z => ?_
  · obtain ⟨L, m, h, args, rh, ra, hl, _⟩ := open_ z
    rw [← ra.length, hl, h3]
  · obtain ⟨L, m, h, args, rh, ra, hl, k⟩ := open_ z
    let W : WX := fun c d _ H' => E c d H'
    have C : Cn (cxOf (L2.CX Γ.P Γ.w) Γ.P Γ.w Γ.K Γ.mg Γ.base N qual (defScope st) (Γ.fa f) cdv A outer s H E) Γ W := ⟨rfl, rfl, rfl, rfl, rfl, rfl, S.nd, hr.units, takes_of rfl rfl rfl rfl⟩
    refine ⟨tS Γ W (evS G (run G ft n) d.body), sndS V (k := 4 * n + 1) (S := (Sc.top N (defScope st))) ⟨C, rfl, rfl, fun _ => rfl, hr.mono (by omega), (fun z => by cases z), (fun z => by cases z), (fun z => by cases z)⟩ S.kind (passes_of rfl) d.body h5, L, m, h, args.map some ++ List.replicate (d.sl - d.ar) none, rh, ?_, ?_⟩
    · rw [← hl]
      exact start_rep ra h4
    · cases hr2 : evS G (run G ft n) d.body (args.map some ++ List.replicate (d.sl - d.ar) none) h with
      | bad =>
        rw [hr2] at k
        exact k
      | exc c p h' =>
        rw [hr2] at k
        exact fun m' H' d σ' g rh' rx => finX_ok rh rfl k m' H' d g rh' rx
      | ok o h' =>
        rw [hr2] at k
        cases o with
        | nx env => exact fun m' H' σ' g rh' re => fin_ok rh rfl k m' H' .non g rh' rfl
        | rt v => exact fun m' H' u g rh' rv => fin_ok rh rfl k m' H' u g rh' rv
        | bk env => exact k.elim
        | ct env => exact k.elim
theorem FnI.mono {Γ : Gm} {cf : CF} {j k f : Nat} (F : FnI Γ cf j f) (h : j ≤ k) : FnI Γ cf k f := by
  obtain ⟨h1, fd, ps, h2, h3⟩ := F
  exact ⟨h1, fd, ps, h2.mono h, h3⟩
theorem FnJ.mono {Γ : Gm} {cf : CF} {j k f : Nat} (F : FnJ Γ cf j f) (h : j ≤ k) : FnJ Γ cf k f := by
  obtain ⟨h1, fd, ps, h2, h3⟩ := F
  exact ⟨h1, fd, ps, ⟨h2.len, fun A outer s H args us vs Q E hg hr => h2.run A outer s H args us vs Q E hg (hr.mono h)⟩, h3⟩
theorem Tb.any {Γ : Gm} {G : GT} {D : Nm} {ft : Nat → Option FD} (T : Tb Γ G D ft) (f : Nat) : PySem.W.keepIn Γ.K (.ref (Γ.fa f)) = true ∧ ∃ fd ps, Binds Γ.K fd ps [] := by
  cases hf : ft f with
  | none => exact T.no f hf
  | some d =>
    obtain ⟨x, qual, st, fd, N, ps, F, _, h2, _⟩ := (T.df f d hf).ex
    exact ⟨F.kp, fd, ps, h2⟩
theorem noJ {Γ : Gm} {cf : CF} {k f : Nat} (h : PySem.W.keepIn Γ.K (.ref (Γ.fa f)) = true ∧ ∃ fd ps, Binds Γ.K fd ps []) (b : ∀ xs h, cf f xs h = .bad) : FnJ Γ cf k f := by
  obtain ⟨h1, fd, ps, h2⟩ := h
  have no : ∀ {vs H Q E}, ¬ spC Γ cf f vs H Q E := fun ⟨_, _, _, _, _, _, k⟩ => by
    rw [b] at k
    exact k
  exact ⟨h1, fd, ps, ⟨fun vs H Q E z => (no z).elim, fun A outer s H a us vs Q E _ _ _ _ _ z => (no z).elim⟩, h2⟩
theorem lvOf {Γ : Gm} {G : GT} {D : Nm} {ft : Nat → Option FD} (T : Tb Γ G D ft) {cf : CF} {j k : Nat} (hj : j + 1 ≤ k) (F : ∀ f, FnI Γ cf j f) (g : CF) (hg : ∀ f, FnJ Γ g k f) : Lv Γ { G with cg := g } D cf k :=
  ⟨T.fn, fun f => (F f).mono (by omega), T.gv, T.nb, T.ow, fun f => (F f).mono (by omega), by omega, ⟨T.kl.1, T.kl.2⟩, fun c h => ⟨(T.ke c h).1, (T.ke c h).2, (T.ke c h).3, (T.ke c h).4⟩, fun x c h => ⟨(T.km x c h).1, (T.km x c h).2.1, ⟨(T.km x c h).2.2.1.1, (T.km x c h).2.2.1.2⟩, (T.km x c h).2.2.2⟩, T.ek, T.xm, T.mt, hg, T.fgn⟩
theorem lv1 {Γ : Gm} {G : GT} {D : Nm} {ft : Nat → Option FD} (T : Tb Γ G D ft) {cf : CF} {j k : Nat} (hc : G.cg = fun _ _ _ => .bad) (hj : j + 1 ≤ k) (F : ∀ f, FnI Γ cf j f) : Lv Γ G D cf k := by
  have z := lvOf T hj F G.cg fun f => noJ (T.any f) fun xs h => by rw [hc]
  exact z
theorem fnI {Γ : Gm} {G : GT} {D : Nm} {ft : Nat → Option FD} (T : Tb Γ G D ft) (hc : G.cg = fun _ _ _ => .bad) : ∀ n f, FnI Γ (run G ft n) (4 * n) f
  | 0, f => by
    obtain ⟨h1, fd, ps, h2⟩ := T.any f
    have no : ∀ {vs H Q E}, ¬ spC Γ (run G ft 0) f vs H Q E := fun ⟨_, _, _, _, _, _, k⟩ => k
    exact ⟨h1, fd, ps, ⟨fun vs H Q E z => (no z).elim, fun A outer s H a us vs Q E _ _ _ _ z => (no z).elim⟩, h2⟩
  | n + 1, f => by
    cases hf : ft f with
    | none =>
      obtain ⟨h1, fd, ps, h2⟩ := T.no f hf
      have no : ∀ {vs H Q E}, ¬ spC Γ (run G ft (n + 1)) f vs H Q E := fun ⟨_, _, _, _, _, _, k⟩ => by
        unfold run at k
        rw [hf] at k
        exact k
      exact ⟨h1, fd, ps, ⟨fun vs H Q E z => (no z).elim, fun A outer s H a us vs Q E _ _ _ _ z => (no z).elim⟩, h2⟩
    | some d =>
      obtain ⟨x, qual, st, fd, N, ps, F, S, h2, h3, h4, h5⟩ := (T.df f d hf).ex
      exact ⟨F.kp, fd, ps, (fnS (lv1 T hc (Nat.le_refl _) (fnI T hc n)) hf F S h3 h4 h5).mono (by omega), h2⟩
theorem lvI {Γ : Gm} {G : GT} {D : Nm} {ft : Nat → Option FD} (T : Tb Γ G D ft) (hc : G.cg = fun _ _ _ => .bad) (n : Nat) : Lv Γ G D (run G ft n) (4 * n + 1) := lv1 T hc (Nat.le_refl _) (fnI T hc n)
structure DefOk2 (Γ : Gm) (D : Nm) (d : FD) (a : Addr) : Prop where
  ex : ∃ x qual st fd N ps lm, Fun Γ.K x qual st a fd ∧ FnScope N ps (defScope st) ∧ Binds Γ.K fd ps [] ∧ ps.length = d.ar ∧ N.length = d.sl ∧ chkS D { N := N, sc := defScope st, fn := none, gd := true, lm := lm } d.body (defBody st) = true ∧
    (lm = true → ∃ c P, fd.code = .ref c ∧ LamX.TabB Γ.base Γ.mg c P ∧ (P, (qual ++ ".<locals>.") ++ "<lambda>") ∈ Γ.tabs ∧ ∀ p ∈ Γ.tabs, p.1 = P → p.2 = (qual ++ ".<locals>.") ++ "<lambda>")
theorem fnG {Γ : Gm} {G : GT} {D : Nm} {ft2 : Nat → Option FD} {cf : CF} {n j f : Nat} {d : FD} (V : Lv Γ { G with cg := run2 G cf ft2 n } D cf (j + 1)) (hf : ft2 f = some d) (DO : DefOk2 Γ D d (Γ.fa f)) : FnJ Γ (run2 G cf ft2 (n + 1)) (j + 4) f := by
  obtain ⟨x, qual, st, fd, N, ps, lm, F, S, h2, h3, h4, h5, h6⟩ := DO.ex
  have open_ : ∀ {vs H Q E}, spC Γ (run2 G cf ft2 (n + 1)) f vs H Q E → ∃ L m h args, RepH Γ L m h H ∧ RepL Γ L m H args vs ∧ args.length = d.ar ∧ okG Γ (fun c d _ H' => E c d H') L m H [] (fun m' H' => RepV Γ L m' H') (endF d.frz h.length (evS { G with cg := run2 G cf ft2 n } cf d.body (args.map some ++ List.replicate (d.sl - d.ar) none) h)) Q := fun ⟨L, m, h, args, rh, ra, k⟩ => by
    unfold run2 at k
    rw [hf] at k
    dsimp only at k
    split at k
    · rename_i hl
      exact ⟨L, m, h, args, rh, ra, of_decide_eq_true hl, k⟩
    · exact k.elim
  obtain ⟨oc, od, kV, doc, pm, an, cdv, ct, osl, rfl, lk, hcd⟩ := F.ex
  refine ⟨F.kp, _, ps, ⟨fun vs H Q E z => ?_, fun A outer s H args us vs Q E hg hr e0 hb r z => ?_⟩, h2⟩
  · obtain ⟨L, m, h, args, rh, ra, hl, _⟩ := open_ z
    rw [← ra.length, hl, h3]
  · obtain ⟨L, m, h, as, rh, ra, hl, k⟩ := open_ z
    refine LamX.run_ofS (k := j + 3) lk hcd S hr e0 hb r (by rw [← ra.length, hl, h3]) fun hr2 => ?_
    let W : WX := fun c d _ H' => E c d H'
    have C : Cn (cxOf (L2.CX Γ.P Γ.w) Γ.P Γ.w Γ.K Γ.mg Γ.base N qual (defScope st) (Γ.fa f) cdv A outer s H E) Γ W := ⟨rfl, rfl, rfl, rfl, rfl, rfl, S.nd, hr2.units, takes_of rfl rfl rfl rfl⟩
    have CS : Cs (cxOf (L2.CX Γ.P Γ.w) Γ.P Γ.w Γ.K Γ.mg Γ.base N qual (defScope st) (Γ.fa f) cdv A outer s H E) Γ W (j + 1) { N := N, sc := defScope st, fn := none, gd := true, lm := lm } := by
      refine ⟨C, rfl, rfl, fun _ => rfl, hr2.mono (by omega), fun _ => hg, fun _ => rfl, fun hlm => ?_⟩
      obtain ⟨c, P, e1, e2, e3, e4⟩ := h6 hlm
      have q1 : (cxOf (L2.CX Γ.P Γ.w) Γ.P Γ.w Γ.K Γ.mg Γ.base N qual (defScope st) (Γ.fa f) cdv A outer s H E).env.code = .ref c := e1
      have q2 : (cxOf (L2.CX Γ.P Γ.w) Γ.P Γ.w Γ.K Γ.mg Γ.base N qual (defScope st) (Γ.fa f) cdv A outer s H E).env.qual = qual ++ ".<locals>." := rfl
      refine LmOk.mk hr2 ⟨c, P, e2, q1, ?_, ?_⟩
      · rw [q2]
        exact e3
      · rw [q2]
        exact e4
    have HS := sndS V CS S.kind (passes_of rfl) d.body h5
    refine ⟨tS Γ W (evS { G with cg := run2 G cf ft2 n } cf d.body), HS, L, m, h, as.map some ++ List.replicate (d.sl - d.ar) none, rh, ?_, ?_⟩
    · rw [← hl]
      exact start_rep ra h4
    · cases hr3 : evS { G with cg := run2 G cf ft2 n } cf d.body (as.map some ++ List.replicate (d.sl - d.ar) none) h with
      | bad =>
        rw [hr3] at k
        exact k
      | exc c p h' =>
        rw [hr3] at k
        exact fun m' H' d σ' g rh' rx => finX_ok rh rfl k m' H' d g rh' rx
      | ok o h' =>
        rw [hr3] at k
        cases o with
        | nx env => exact fun m' H' σ' g rh' re => fin_ok rh rfl k m' H' .non g rh' rfl
        | rt v => exact fun m' H' u g rh' rv => fin_ok rh rfl k m' H' u g rh' rv
        | bk env => exact k.elim
        | ct env => exact k.elim
theorem fnI2 {Γ : Gm} {G : GT} {D : Nm} {ft ft2 : Nat → Option FD} (T : Tb Γ G D ft) (hc : G.cg = fun _ _ _ => .bad) (N : Nat) (T2 : ∀ f d, ft2 f = some d → DefOk2 Γ D d (Γ.fa f)) : ∀ n f, FnJ Γ (run2 G (run G ft N) ft2 n) (4 * N + 4 * n) f
  | 0, f => noJ (T.any f) fun _ _ => rfl
  | n + 1, f => by
    cases hf : ft2 f with
    | none => exact noJ (T.any f) fun xs h => by unfold run2; rw [hf]
    | some d =>
      have V : Lv Γ { G with cg := run2 G (run G ft N) ft2 n } D (run G ft N) (4 * N + 4 * n + 1) := lvOf T (by omega) (fnI T hc N) _ fun f => (fnI2 T hc N T2 n f).mono (by omega)
      exact fnG V hf (T2 f d hf)
end Mi
set_option Elab.async false
set_option linter.all false
set_option maxRecDepth 100000
set_option maxHeartbeats 4000000
namespace Mi
open PySem PySem.Spec PyProof.Rows L2
structure DK (K : PySem.W.Frag) (x : Str) (st : Stmt) (a : Addr) : Prop where
  ns : PySem.W.nsIn K mainGlobals x = some (some (.ref a))
  fn : ∃ fd, Fun K x x st a fd
def AllD (K : PySem.W.Frag) : List (Str × Stmt) → Prop
  | [] => True
  | (x, s) :: r => (∃ a, DK K x s a) ∧ AllD K r
def CV (K : PySem.W.Frag) (x : Str) (v : Vl) : Prop := ∃ u w, PySem.W.nsIn K mainGlobals x = some (some w) ∧ RelV u w ∧ ∀ (Γ : Gm) L m H, Γ.K = K → RepV Γ L m H v u
theorem CV.int {K : PySem.W.Frag} {x : Str} {i : Int} {t : Tok} (h : PySem.W.nsIn K mainGlobals x = some (some (.int i t))) : CV K x (.int i) := ⟨.int i, .int i t, h, ⟨t, rfl⟩, fun _ _ _ _ _ => rfl⟩
theorem CV.str {K : PySem.W.Frag} {x : Str} {s : List Nat} {t : Tok} (h : PySem.W.nsIn K mainGlobals x = some (some (.str ⟨s.toArray⟩ t))) : CV K x (.str s) := ⟨.str ⟨s.toArray⟩, .str ⟨s.toArray⟩ t, h, ⟨t, rfl⟩, fun _ _ _ _ _ => rfl⟩
theorem CV.bl {K : PySem.W.Frag} {x : Str} {b : Bool} (h : PySem.W.nsIn K mainGlobals x = some (some (.bool b))) : CV K x (.bl b) := ⟨.bl b, .bool b, h, rfl, fun _ _ _ _ _ => rfl⟩
theorem CV.non {K : PySem.W.Frag} {x : Str} (h : PySem.W.nsIn K mainGlobals x = some (some .none)) : CV K x .non := ⟨.non, .none, h, rfl, fun _ _ _ _ _ => rfl⟩
def AllV (K : PySem.W.Frag) : List (Str × Vl) → Prop
  | [] => True
  | (x, v) :: r => CV K x v ∧ AllV K r
def AllN (K : PySem.W.Frag) : List Str → Prop
  | [] => True
  | x :: r => PySem.W.nsIn K mainGlobals x = some none ∧ AllN K r
theorem AllD.get {K : PySem.W.Frag} : ∀ {l : List (Str × Stmt)} {i : Nat} {x : Str} {s : Stmt}, AllD K l → l[i]? = some (x, s) → ∃ a, DK K x s a
  | [], _, _, _, _, e => by simp at e
  | (y, t) :: r, 0, x, s, h, e => by
    simp at e
    obtain ⟨rfl, rfl⟩ := e
    exact h.1
  | (y, t) :: r, i + 1, x, s, h, e => AllD.get (l := r) (i := i) h.2 (by simpa using e)
theorem AllV.get {K : PySem.W.Frag} : ∀ {l : List (Str × Vl)} {i : Nat} {x : Str} {v : Vl}, AllV K l → l[i]? = some (x, v) → CV K x v
  | [], _, _, _, _, e => by simp at e
  | (y, t) :: r, 0, x, s, h, e => by
    simp at e
    obtain ⟨rfl, rfl⟩ := e
    exact h.1
  | (y, t) :: r, i + 1, x, s, h, e => AllV.get (l := r) (i := i) h.2 (by simpa using e)
theorem AllN.mem {K : PySem.W.Frag} : ∀ {l : List Str} {x : Str}, AllN K l → x ∈ l → PySem.W.nsIn K mainGlobals x = some none
  | y :: r, x, h, e => by
    rcases List.mem_cons.mp e with rfl | e
    · exact h.1
    · exact AllN.mem h.2 e
def numb (n : Nat) : List Str → List (Str × Nat)
  | [] => []
  | x :: r => (x, n) :: numb (n + 1) r
theorem numb_get : ∀ {l : List Str} {n : Nat} {x : Str} {i : Nat}, (numb n l).lookup x = some i → n ≤ i ∧ l[i - n]? = some x
  | [], _, _, _, e => by cases e
  | y :: r, n, x, i, e => by
    have e : ((y, n) :: numb (n + 1) r).lookup x = some i := e
    rw [List.lookup_cons] at e
    cases hb : x == y with
    | true =>
      rw [hb] at e
      cases Option.some.inj e
      have := eq_of_beq hb
      subst this
      exact ⟨Nat.le_refl _, by simp⟩
    | false =>
      rw [hb] at e
      obtain ⟨h1, h2⟩ := numb_get (l := r) (n := n + 1) e
      refine ⟨by omega, ?_⟩
      have : i - n = (i - (n + 1)) + 1 := by omega
      rw [this]
      exact h2
structure DS (D : Nm) (d : FD) (x : Str) (st : Stmt) (N ps : List Str) : Prop where
  sc : FnScope N ps (defScope st)
  bd : ∀ (kV doc pm : Value) (an : Option Addr) (cdv ct : Value) (us : List Value), us.length = ps.length → bindArgs (PySem.W.fnOf x x (defArgs st) (defBody st) (defScope st) .none kV doc pm an cdv ct) ⟨us, []⟩ = pure (ps.zip us)
  ar : ps.length = d.ar
  sl : N.length = d.sl
  ck : chkS D (Sc.top N (defScope st)) d.body (defBody st) = true
structure TT' where
  d : FD
  x : Str
  st : Stmt
def mkD (tab : List TT') (cs : List (Str × Vl)) : Nm := { fns := numb 0 (tab.map (·.x)), gvs := numb 0 (cs.map (·.1)) ++ numb cs.length (tab.map (·.x)) }
def gvF (n : Nat) (cs : List Vl) (g : Nat) : Option Vl := match cs[g]? with
  | some v => some v
  | none => match decide (g < n + cs.length) with
    | true => some (.fn (g - cs.length))
    | false => none
def mkG (n : Nat) (cs : List Vl) : GT := { gv := gvF n cs, at_ := fun _ _ => none, init := fun _ => none, exk := fun _ => none, eqf := fun _ => none }
def mkF (ds : List FD) : Nat → Option FD := fun f => ds[f]?
theorem lookup_app {α : Type} {l r : List (Str × α)} {x : Str} {v : α} (h : (l ++ r).lookup x = some v) : l.lookup x = some v ∨ r.lookup x = some v := by
  induction l with
  | nil => exact .inr h
  | cons y l ih =>
    obtain ⟨k, u⟩ := y
    have h : ((k, u) :: (l ++ r)).lookup x = some v := h
    rw [List.lookup_cons] at h ⊢
    cases hb : x == k with
    | true => rw [hb] at h; exact .inl h
    | false => rw [hb] at h; exact ih h
def spLaw (K : PySem.W.Frag) : Sp := fun vs H Q _ => ∃ (a : Addr) (ns : List Int), vs = [.ref a] ∧ ns.length ≤ 63 ∧ Only H ∧ SqL K H a (ns.map V.int) ∧ ∀ H', Q (.bl true) H'
def AllS (D : Nm) : List TT' → Prop
  | [] => True
  | t :: r => (∃ N ps, DS D t.d t.x t.st N ps) ∧ AllS D r
theorem AllS.get {D : Nm} : ∀ {l : List TT'} (f : Nat) (t : TT'), AllS D l → l[f]? = some t → ∃ N ps, DS D t.d t.x t.st N ps
  | [], _, _, _, e => by simp at e
  | y :: r, 0, t, h, e => by
    simp at e
    subst e
    exact h.1
  | y :: r, i + 1, t, h, e => AllS.get (l := r) i t h.2 (by simpa using e)
theorem law_end {l : PySem.W.OpenLaw} {w : World} {K : PySem.W.Frag} {mg : Str → Option Value} {fa : Addr} {h : Heap} {tab : List TT'} {cs : List (Str × Vl)} {n lf : Nat} {d : FD} {st : Stmt} (X : K.In h) (G0 : h.Ns mainGlobals mg) (hfa : mg "law" = some (.ref fa))
    (hDS : ∀ (f : Nat) (t : TT'), tab[f]? = some t → ∃ N ps, DS (mkD tab cs) t.d t.x t.st N ps) (hL : tab[lf]? = some ⟨d, "law", st⟩) (hS : ∃ N, DS (mkD tab cs) d "law" st N ["script"]) (hA : AllD K (tab.map fun t => (t.x, t.st))) (hC : AllV K cs) (hN : AllN K bNames)
    (hlaw : ∀ ns : List Int, ns.length ≤ 63 → ∃ h', run (mkG tab.length (cs.map (·.2))) (mkF (tab.map (·.d))) (n + 1) lf [.scr (ns.map .int)] [] = .ok (.bl true) h') :
    ∃ fd : FuncData, (∀ (s : Shared) (v : Value), BindsTo s fd ⟨[v], []⟩ [("script", v)]) ∧ ∀ base : Heap, K.In base → base.Ns mainGlobals mg → FnOk l.prog w K mg base (L2.CX l.prog w) (4 * n + 4) fa fd ["script"] (spLaw K) := by
  have at_ : ∀ f : Nat, ∃ a, ∀ t, tab[f]? = some t → DK K t.x t.st a := fun f => by
    cases hf : tab[f]? with
    | none => exact ⟨0, fun t e => by cases e⟩
    | some t =>
      obtain ⟨a, ha⟩ := AllD.get (i := f) (x := t.x) (s := t.st) hA (by rw [List.getElem?_map, hf]; rfl)
      exact ⟨a, fun t' e => by cases e; exact ha⟩
  let adr : Nat → Addr := fun f => if f < tab.length then Classical.choose (at_ f) else Classical.choose (at_ lf)
  have adr_ok : ∀ f t, tab[f]? = some t → DK K t.x t.st (adr f) := fun f t e => by
    have hl := (List.getElem?_eq_some_iff.mp e).1
    show DK K t.x t.st (if f < tab.length then Classical.choose (at_ f) else Classical.choose (at_ lf))
    rw [if_pos hl]
    exact Classical.choose_spec (at_ f) t e
  have adr_no : ∀ f, tab[f]? = none → DK K "law" st (adr f) := fun f e => by
    have hl := List.getElem?_eq_none_iff.mp e
    show DK K "law" st (if f < tab.length then Classical.choose (at_ f) else Classical.choose (at_ lf))
    rw [if_neg (by omega)]
    exact Classical.choose_spec (at_ lf) _ hL
  have dl := adr_ok lf _ hL
  have efa : fa = adr lf := by
    have := hfa.symm.trans (PySem.W.mg_of X G0 dl.ns)
    cases this
    rfl
  obtain ⟨fd, F⟩ := dl.fn
  obtain ⟨N, S⟩ := hS
  refine ⟨fd, fun s v => ?_, fun base KB GB => ?_⟩
  · obtain ⟨oc, od, kV, doc, pm, an, cdv, ct, osl, rfl, lk, hcd⟩ := F.ex
    exact .of_eq (S.bd kV doc pm an cdv ct [v] rfl)
  let Γ : Gm := { P := l.prog, w := w, K := K, mg := mg, base := base, fa := adr, ca := fun _ => 0, xa := fun _ => 0, xf := fun _ => "", cok := fun _ => false }
  have T : Tb Γ (mkG tab.length (cs.map (·.2))) (mkD tab cs) (mkF (tab.map (·.d))) := by
    refine ⟨fun x f e => ?_, fun x g e => ?_, fun x hx => ?_, fun c z => (by cases z), fun f d e => ?_, ⟨fun _ _ _ _ _ z => (by cases z), fun _ _ _ _ _ z => (by cases z)⟩, fun _ z => (by cases z), fun _ _ z => (by cases z), ⟨fun _ _ _ z => (by cases z), fun _ _ _ z => (by cases z), fun _ _ z => (by obtain ⟨_, _, z⟩ := z; cases z)⟩, fun _ _ _ z => (by cases z), fun _ _ z => (by cases z), fun _ _ z => (by cases z), fun f e => ?_⟩
    · obtain ⟨_, e2⟩ := numb_get e
      rw [Nat.sub_zero, List.getElem?_map] at e2
      cases ht : tab[f]? with
      | none => rw [ht] at e2; cases e2
      | some t =>
        rw [ht] at e2
        cases Option.some.inj e2
        exact PySem.W.mg_of X G0 (adr_ok f t ht).ns
    · rcases lookup_app e with e | e
      · obtain ⟨_, e2⟩ := numb_get e
        rw [Nat.sub_zero, List.getElem?_map] at e2
        cases ht : cs[g]? with
        | none => rw [ht] at e2; cases e2
        | some t =>
          rw [ht] at e2
          cases Option.some.inj e2
          obtain ⟨u, w', h1, h2, h3⟩ := AllV.get (x := t.1) (v := t.2) hC ht
          refine ⟨t.2, u, w', ?_, PySem.W.mg_of X G0 h1, h2, fun L m H => h3 Γ L m H rfl⟩
          show gvF tab.length (cs.map (·.2)) g = _
          unfold gvF
          rw [List.getElem?_map, ht]
          rfl
      · obtain ⟨e1, e2⟩ := numb_get e
        rw [List.getElem?_map] at e2
        cases ht : tab[g - cs.length]? with
        | none => rw [ht] at e2; cases e2
        | some t =>
          rw [ht] at e2
          cases Option.some.inj e2
          have hl := (List.getElem?_eq_some_iff.mp ht).1
          refine ⟨.fn (g - cs.length), .ref (adr (g - cs.length)), .ref (adr (g - cs.length)), ?_, PySem.W.mg_of X G0 (adr_ok _ t ht).ns, rfl, fun L m H => rfl⟩
          show gvF tab.length (cs.map (·.2)) g = _
          unfold gvF
          rw [List.getElem?_eq_none (by rw [List.length_map]; exact e1), List.length_map, decide_eq_true (by omega)]
    · exact PySem.W.mg_none_of X G0 (hN.mem hx)
    · have e : (tab.map (·.d))[f]? = some d := e
      rw [List.getElem?_map] at e
      cases ht : tab[f]? with
      | none => rw [ht] at e; cases e
      | some t =>
        rw [ht] at e
        cases Option.some.inj e
        obtain ⟨N', ps, S'⟩ := hDS f t ht
        obtain ⟨fd', F'⟩ := (adr_ok f t ht).fn
        exact ⟨t.x, t.x, t.st, fd', N', ps, F', S'.sc, F'.binds S'.bd, S'.ar, S'.sl, S'.ck⟩
    · have e : (tab.map (·.d))[f]? = none := e
      rw [List.getElem?_map] at e
      cases ht : tab[f]? with
      | some t => rw [ht] at e; cases e
      | none =>
        obtain ⟨fd', F'⟩ := (adr_no f ht).fn
        exact ⟨F'.kp, fd', ["script"], F'.binds S.bd⟩
  rw [efa]
  have hf : mkF (tab.map (·.d)) lf = some d := by
    show (tab.map (·.d))[lf]? = _
    rw [List.getElem?_map, hL]
    rfl
  refine FnOk.imp (fnS (Γ := Γ) (lvI T rfl n) hf F S.sc S.ar S.sl S.ck) fun vs H Q E z => ?_
  obtain ⟨a, ns, rfl, hl, ho, hs, q⟩ := z
  obtain ⟨h', e⟩ := hlaw ns hl
  refine ⟨[], [], [], [.scr (ns.map .int)], ⟨rfl, .nil, fun _ z => (by cases z), fun i a o e => (by simp at e), fun _ z => (by cases z), fun _ z => (by cases z)⟩, ⟨⟨a, ns.map V.int, rfl, ?_, ints_map⟩, trivial⟩, ?_⟩
  · rcases hs with (hs | ⟨o, hs⟩) | hs
    · rcases ho a with z | ⟨o, xs, z⟩
      · rw [hs] at z; cases z
      · rw [hs] at z; cases z
    · exact .inl ⟨o, hs⟩
    · obtain ⟨o, its, n, h1, h2, h3, h4, h5, h6⟩ := hs
      exact .inr ⟨o, its, n, h1, h2, h3, h4, h5, h6⟩
  · rw [e]
    intro m' H' u _ _ r
    cases (show u = .bl true from r)
    exact q H'
end Mi
set_option Elab.async false
set_option linter.all false
set_option maxRecDepth 100000
set_option maxHeartbeats 4000000
namespace Mi
open PySem PySem.Spec PyProof.Rows L2
inductive Wh where
  | mod
  | ini (c : Nat)
  | prp (c : Nat)
  | eqm (c : Nat)
  | oth (c : Nat)
  deriving DecidableEq
structure TC where
  d : FD
  x : Str
  q : Str
  st : Stmt
  wh : Wh
structure KR where
  x : Str
  sl : List (Str × Nat)
  n : Nat
structure DSc (D : Nm) (d : FD) (x q : Str) (st : Stmt) (N ps : List Str) : Prop where
  sc : FnScope N ps (defScope st)
  bd : ∀ (kV doc pm : Value) (an : Option Addr) (cdv ct : Value) (us : List Value), us.length = ps.length → bindArgs (PySem.W.fnOf x q (defArgs st) (defBody st) (defScope st) .none kV doc pm an cdv ct) ⟨us, []⟩ = pure (ps.zip us)
  ar : ps.length = d.ar
  sl : N.length = d.sl
  ck : chkS D (Sc.top N (defScope st)) d.body (defBody st) = true
def AllSc (D : Nm) : List TC → Prop
  | [] => True
  | t :: r => (∃ N ps, DSc D t.d t.x t.q t.st N ps) ∧ AllSc D r
theorem AllSc.get {D : Nm} : ∀ {l : List TC} (f : Nat) (t : TC), AllSc D l → l[f]? = some t → ∃ N ps, DSc D t.d t.x t.q t.st N ps
  | [], _, _, _, e => by simp at e
  | y :: r, 0, t, h, e => by
    simp at e
    subst e
    exact h.1
  | y :: r, i + 1, t, h, e => AllSc.get (l := r) i t h.2 (by simpa using e)
def fnsOf (n : Nat) : List TC → List (Str × Nat)
  | [] => []
  | t :: r => match t.wh with
    | .mod => (t.x, n) :: fnsOf (n + 1) r
    | _ => fnsOf (n + 1) r
theorem fnsOf_get : ∀ {l : List TC} {n : Nat} {x : Str} {i : Nat}, (fnsOf n l).lookup x = some i → n ≤ i ∧ ∃ t, l[i - n]? = some t ∧ t.wh = .mod ∧ t.x = x
  | [], _, _, _, e => by cases e
  | y :: r, n, x, i, e => by
    have rest : (fnsOf (n + 1) r).lookup x = some i → n ≤ i ∧ ∃ t, (y :: r)[i - n]? = some t ∧ t.wh = .mod ∧ t.x = x := fun e => by
      obtain ⟨h1, t, h2, h3⟩ := fnsOf_get (l := r) (n := n + 1) e
      refine ⟨by omega, t, ?_, h3⟩
      rw [show i - n = (i - (n + 1)) + 1 by omega]
      exact h2
    unfold fnsOf at e
    split at e
    · rename_i hw
      rw [List.lookup_cons] at e
      cases hb : x == y.x with
      | true =>
        rw [hb] at e
        cases Option.some.inj e
        exact ⟨Nat.le_refl _, y, by rw [Nat.sub_self]; rfl, hw, (eq_of_beq hb).symm⟩
      | false =>
        rw [hb] at e
        exact rest e
    · exact rest e
def shift (k : Nat) : List (Str × Nat) → List (Str × Nat) := List.map fun p => (p.1, p.2 + k)
theorem shift_get {k : Nat} : ∀ {l : List (Str × Nat)} {x : Str} {i : Nat}, (shift k l).lookup x = some i → k ≤ i ∧ l.lookup x = some (i - k)
  | [], _, _, e => by cases e
  | (y, j) :: r, x, i, e => by
    have e : ((y, j + k) :: shift k r).lookup x = some i := e
    rw [List.lookup_cons] at e ⊢
    cases hb : x == y with
    | true =>
      rw [hb] at e
      cases Option.some.inj e
      exact ⟨Nat.le_add_left _ _, by rw [Nat.add_sub_cancel]⟩
    | false =>
      rw [hb] at e
      exact shift_get e
def mkDc (tab : List TC) (cs : List (Str × Vl)) (kr : List KR) (ats : List Str) : Nm := { fns := fnsOf 0 tab, gvs := numb 0 (cs.map (·.1)) ++ shift cs.length (fnsOf 0 tab), ats := numb 0 ats, cls := numb 0 (kr.map (·.x)) }
def findW (w : Wh) (x : Str) (n : Nat) : List TC → Option Nat
  | [] => none
  | t :: r => match decide (t.wh = w) with
    | true => match decide (t.x = x) with
      | true => some n
      | false => findW w x (n + 1) r
    | false => findW w x (n + 1) r
theorem findW_get {w : Wh} {x : Str} : ∀ {l : List TC} {n i : Nat}, findW w x n l = some i → n ≤ i ∧ ∃ t, l[i - n]? = some t ∧ t.wh = w ∧ t.x = x
  | [], _, _, e => by cases e
  | y :: r, n, i, e => by
    have rest : findW w x (n + 1) r = some i → n ≤ i ∧ ∃ t, (y :: r)[i - n]? = some t ∧ t.wh = w ∧ t.x = x := fun e => by
      obtain ⟨h1, t, h2, h3⟩ := findW_get (l := r) (n := n + 1) e
      refine ⟨by omega, t, ?_, h3⟩
      rw [show i - n = (i - (n + 1)) + 1 by omega]
      exact h2
    unfold findW at e
    split at e
    · rename_i h1
      split at e
      · rename_i h2
        cases Option.some.inj e
        exact ⟨Nat.le_refl _, y, by rw [Nat.sub_self]; rfl, of_decide_eq_true h1, of_decide_eq_true h2⟩
      · exact rest e
    · exact rest e
def atF (tab : List TC) (kr : List KR) (ats : List Str) (c f : Nat) : Option (Nat ⊕ Nat) := match kr[c]? with
  | some r => match ats[f]? with
    | some x => match r.sl.lookup x with
      | some i => some (.inl i)
      | none => match findW (.prp c) x 0 tab with
        | some g => some (.inr g)
        | none => none
    | none => none
  | none => none
def iniF (tab : List TC) (kr : List KR) (c : Nat) : Option (Nat × Nat) := match kr[c]? with
  | some r => match findW (.ini c) "__init__" 0 tab with
    | some g => some (g, r.n)
    | none => none
  | none => none
def mkGc (tab : List TC) (cs : List Vl) (kr : List KR) (ats : List Str) : GT := { gv := gvF tab.length cs, at_ := atF tab kr ats, init := iniF tab kr, exk := fun _ => none, eqf := fun c => findW (.eqm c) "__eq__" 0 tab }
def WhK (K : PySem.W.Frag) (cas : List Addr) (x : Str) (a : Addr) : Wh → Prop
  | .mod => PySem.W.nsIn K mainGlobals x = some (some (.ref a))
  | .ini c => ∃ C, cas[c]? = some C ∧ L2.Mk K C a
  | .prp c => ∃ C p rest, cas[c]? = some C ∧ PySem.W.findIn K (.ref C) x = some (some (.ref p)) ∧ PySem.W.specialIn K (.ref p) "__get__" = some (some (.builtin "property.__get__")) ∧ PySem.W.takesIn K (.ref p) = some true ∧ PySem.W.recIn K p "property" = some (.ref a :: rest)
  | .eqm c => ∃ C, cas[c]? = some C ∧ PySem.W.findIn K (.ref C) x = some (some (.ref a)) ∧ PySem.W.isFn K (.ref a) = true
  | .oth c => ∃ C, cas[c]? = some C ∧ PySem.W.findIn K (.ref C) x = some (some (.ref a))
structure DKc (K : PySem.W.Frag) (cas : List Addr) (t : TC) (a : Addr) : Prop where
  wh : WhK K cas t.x a t.wh
  fn : ∃ fd, Fun K t.x t.q t.st a fd
theorem dkMod {K : PySem.W.Frag} {cas : List Addr} {d : FD} {x q : Str} {st : Stmt} {a : Addr} (h : PySem.W.nsIn K mainGlobals x = some (some (.ref a))) (f : ∃ fd, Fun K x q st a fd) : DKc K cas ⟨d, x, q, st, .mod⟩ a := ⟨h, f⟩
theorem dkIni {K : PySem.W.Frag} {cas : List Addr} {d : FD} {x q : Str} {st : Stmt} {a C : Addr} {c : Nat} (hc : cas[c]? = some C) (h : L2.Mk K C a) (f : ∃ fd, Fun K x q st a fd) : DKc K cas ⟨d, x, q, st, .ini c⟩ a := ⟨⟨C, hc, h⟩, f⟩
theorem dkPrp {K : PySem.W.Frag} {cas : List Addr} {d : FD} {x q : Str} {st : Stmt} {a C p : Addr} {c : Nat} {rest : List Value} (hc : cas[c]? = some C) (h1 : PySem.W.findIn K (.ref C) x = some (some (.ref p))) (h2 : PySem.W.specialIn K (.ref p) "__get__" = some (some (.builtin "property.__get__"))) (h3 : PySem.W.takesIn K (.ref p) = some true) (h4 : PySem.W.recIn K p "property" = some (.ref a :: rest)) (f : ∃ fd, Fun K x q st a fd) : DKc K cas ⟨d, x, q, st, .prp c⟩ a := ⟨⟨C, p, rest, hc, h1, h2, h3, h4⟩, f⟩
theorem dkEqm {K : PySem.W.Frag} {cas : List Addr} {d : FD} {x q : Str} {st : Stmt} {a C : Addr} {c : Nat} (hc : cas[c]? = some C) (h1 : PySem.W.findIn K (.ref C) x = some (some (.ref a))) (h2 : PySem.W.isFn K (.ref a) = true) (f : ∃ fd, Fun K x q st a fd) : DKc K cas ⟨d, x, q, st, .eqm c⟩ a := ⟨⟨C, hc, h1, h2⟩, f⟩
theorem dkOth {K : PySem.W.Frag} {cas : List Addr} {d : FD} {x q : Str} {st : Stmt} {a C : Addr} {c : Nat} (hc : cas[c]? = some C) (h1 : PySem.W.findIn K (.ref C) x = some (some (.ref a))) (f : ∃ fd, Fun K x q st a fd) : DKc K cas ⟨d, x, q, st, .oth c⟩ a := ⟨⟨C, hc, h1⟩, f⟩
def AllDc (K : PySem.W.Frag) (cas : List Addr) : List TC → Prop
  | [] => True
  | t :: r => (∃ a, DKc K cas t a) ∧ AllDc K cas r
theorem AllDc.get {K : PySem.W.Frag} {cas : List Addr} : ∀ {l : List TC} {i : Nat} {t : TC}, AllDc K cas l → l[i]? = some t → ∃ a, DKc K cas t a
  | [], _, _, _, e => by simp at e
  | y :: r, 0, t, h, e => by
    simp at e
    subst e
    exact h.1
  | y :: r, i + 1, t, h, e => AllDc.get (l := r) (i := i) h.2 (by simpa using e)
def AllSl (K : PySem.W.Frag) (C : Addr) : List (Str × Nat) → Prop
  | [] => True
  | (x, i) :: r => (∃ p, L2.Slt K C x i p) ∧ AllSl K C r
theorem AllSl.get {K : PySem.W.Frag} {C : Addr} : ∀ {l : List (Str × Nat)} {x : Str} {i : Nat}, AllSl K C l → l.lookup x = some i → ∃ p, L2.Slt K C x i p
  | [], _, _, _, e => by cases e
  | (y, j) :: r, x, i, h, e => by
    rw [List.lookup_cons] at e
    cases hb : x == y with
    | true =>
      rw [hb] at e
      cases Option.some.inj e
      rw [eq_of_beq hb]
      exact h.1
    | false =>
      rw [hb] at e
      exact AllSl.get h.2 e
def AllT (K : PySem.W.Frag) (C : Addr) (b : Bool) : List String → Prop
  | [] => True
  | T :: r => (b = true → PySem.W.kitOne K (.type T) (.ref C) = some false) ∧ (b = false → PySem.W.kitOne K (.ref C) (.type T) = some false) ∧ AllT K C b r
theorem kit_refT {K : PySem.W.Frag} {C : Addr} {T : String} {b : Bool} (hm : PySem.W.kitMeta T = true) (hs : PySem.W.subIn K (.ref C) (.type T) = some b) : PySem.W.kitOne K (.ref C) (.type T) = some b := by
  unfold PySem.W.kitOne
  rw [if_neg (by simp)]
  show (if PySem.W.kitMeta T = true then PySem.W.subIn K (.ref C) (.type T) else none) = _
  rw [if_pos hm, hs]
theorem kit_tref {K : PySem.W.Frag} {t : Value} {C : Addr} {b : Bool} (ne : (t == Value.ref C) = false) (hc : PySem.W.isClsIn K C = true) (ht : PySem.W.typeIn K (.ref C) = some (.type "type")) (hs : PySem.W.subIn K t (.ref C) = some b) : PySem.W.kitOne K t (.ref C) = some b := by
  unfold PySem.W.kitOne
  rw [ne, if_neg Bool.false_ne_true]
  show (if ((PySem.W.clsIn K C).isSome && PySem.W.typeIn K (.ref C) == some (.type "type")) = true then PySem.W.subIn K t (.ref C) else none) = _
  rw [show (PySem.W.clsIn K C).isSome = true from hc, ht, if_pos (by decide), hs]
theorem kit_self {K : PySem.W.Frag} {C : Addr} : PySem.W.kitOne K (.ref C) (.ref C) = some true := by
  unfold PySem.W.kitOne
  rw [if_pos (by simp)]
structure KF (K : PySem.W.Frag) (C : Addr) (r : KR) : Prop where
  ns : PySem.W.nsIn K mainGlobals r.x = some (some (.ref C))
  kp : PySem.W.keepIn K (.ref C) = true
  cls : L2.SCls K C
  fc : PySem.W.findIn K (.ref C) "__class__" = some (some (.builtin "object.__class__"))
  sp : PySem.W.specialIn K (.builtin "object.__class__") "__get__" = some (some (.builtin "getset_descriptor.__get__"))
  tk : PySem.W.takesIn K (.builtin "object.__class__") = some true
  mro : PySem.W.mroIn K C (.type "object") = some true
  mkn : PySem.W.makesIn K C = true
  nn : PySem.W.findIn K (.ref C) "__ne__" = some (some (.builtin "object.__ne__"))
  ty : PySem.W.typeIn K (.ref C) = some (.type "type")
  t1 : PySem.W.subIn K (.ref C) (.type "int") = some false
  t2 : PySem.W.subIn K (.ref C) (.type "bool") = some false
  t3 : PySem.W.subIn K (.ref C) (.type "str") = some false
  t4 : PySem.W.subIn K (.ref C) (.type "tuple") = some false
  t5 : PySem.W.subIn K (.ref C) (.type "list") = some false
  u0 : PySem.W.subIn K (.type "NoneType") (.ref C) = some false
  u1 : PySem.W.subIn K (.type "int") (.ref C) = some false
  u2 : PySem.W.subIn K (.type "bool") (.ref C) = some false
  u3 : PySem.W.subIn K (.type "str") (.ref C) = some false
  u4 : PySem.W.subIn K (.type "tuple") (.ref C) = some false
  u5 : PySem.W.subIn K (.type "list") (.ref C) = some false
  u6 : PySem.W.subIn K (.type "dict") (.ref C) = some false
  sl : AllSl K C r.sl
def AllKF (K : PySem.W.Frag) : List Addr → List KR → Prop
  | [], [] => True
  | C :: cas, r :: kr => KF K C r ∧ AllKF K cas kr
  | _, _ => False
theorem AllKF.get {K : PySem.W.Frag} : ∀ {cas : List Addr} {kr : List KR} {c : Nat} {r : KR}, AllKF K cas kr → kr[c]? = some r → ∃ C, cas[c]? = some C ∧ KF K C r
  | [], [], _, _, _, e => by simp at e
  | C :: cas, y :: kr, 0, r, h, e => by
    simp at e
    subst e
    exact ⟨C, rfl, h.1⟩
  | C :: cas, y :: kr, c + 1, r, h, e => by
    obtain ⟨D, h1, h2⟩ := AllKF.get (cas := cas) (kr := kr) (c := c) h.2 (by simpa using e)
    exact ⟨D, by simpa using h1, h2⟩
  | [], _ :: _, _, _, h, _ => h.elim
  | _ :: _, [], _, _, h, _ => h.elim
theorem AllKF.len {K : PySem.W.Frag} : ∀ {cas : List Addr} {kr : List KR}, AllKF K cas kr → cas.length = kr.length
  | [], [], _ => rfl
  | C :: cas, y :: kr, h => congrArg (· + 1) (AllKF.len h.2)
  | [], _ :: _, h => h.elim
  | _ :: _, [], h => h.elim
def AllOw (K : PySem.W.Frag) (cas : List Addr) : Prop := ∀ (c d : Nat) (C E : Addr), cas[c]? = some C → cas[d]? = some E → PySem.W.kitOne K (.ref E) (.ref C) = some (d == c)
theorem nf_of {K : PySem.W.Frag} {C : Addr} {tb : Value} (h : PySem.W.subIn K tb (.ref C) = some false) : PySem.W.notFirst K C tb = true := by
  unfold PySem.W.notFirst
  rw [h]
  simp
theorem law_endC {l : PySem.W.OpenLaw} {w : World} {K : PySem.W.Frag} {mg : Str → Option Value} {fa : Addr} {h : Heap} {tab : List TC} {cs : List (Str × Vl)} {kr : List KR} {ats : List Str} {n lf : Nat} {d : FD} {st : Stmt} (X : K.In h) (G0 : h.Ns mainGlobals mg) (hfa : mg "law" = some (.ref fa))
    (hDS : ∀ (f : Nat) (t : TC), tab[f]? = some t → ∃ N ps, DSc (mkDc tab cs kr ats) t.d t.x t.q t.st N ps) (hL : tab[lf]? = some ⟨d, "law", "law", st, .mod⟩) (hS : ∃ N, DSc (mkDc tab cs kr ats) d "law" "law" st N ["script"])
    (hA : ∃ cas, AllKF K cas kr ∧ AllOw K cas ∧ AllDc K cas tab) (hC : AllV K cs) (hN : AllN K bNames)
    (hlaw : ∀ ns : List Int, ns.length ≤ 63 → ∃ h', run (mkGc tab (cs.map (·.2)) kr ats) (mkF (tab.map (·.d))) (n + 1) lf [.scr (ns.map .int)] [] = .ok (.bl true) h') :
    ∃ fd : FuncData, (∀ (s : Shared) (v : Value), BindsTo s fd ⟨[v], []⟩ [("script", v)]) ∧ ∀ base : Heap, K.In base → base.Ns mainGlobals mg → FnOk l.prog w K mg base (L2.CX l.prog w) (4 * n + 4) fa fd ["script"] (spLaw K) := by
  obtain ⟨cas, hK, hO, hA⟩ := hA
  have at_ : ∀ f : Nat, ∃ a, ∀ t, tab[f]? = some t → DKc K cas t a := fun f => by
    cases hf : tab[f]? with
    | none => exact ⟨0, fun t e => by cases e⟩
    | some t =>
      obtain ⟨a, ha⟩ := AllDc.get hA hf
      exact ⟨a, fun t' e => by cases e; exact ha⟩
  let adr : Nat → Addr := fun f => if f < tab.length then Classical.choose (at_ f) else Classical.choose (at_ lf)
  have adr_ok : ∀ f t, tab[f]? = some t → DKc K cas t (adr f) := fun f t e => by
    have hl := (List.getElem?_eq_some_iff.mp e).1
    show DKc K cas t (if f < tab.length then Classical.choose (at_ f) else Classical.choose (at_ lf))
    rw [if_pos hl]
    exact Classical.choose_spec (at_ f) t e
  have adr_no : ∀ f, tab[f]? = none → DKc K cas ⟨d, "law", "law", st, .mod⟩ (adr f) := fun f e => by
    have hl := List.getElem?_eq_none_iff.mp e
    show DKc K cas _ (if f < tab.length then Classical.choose (at_ f) else Classical.choose (at_ lf))
    rw [if_neg (by omega)]
    exact Classical.choose_spec (at_ lf) _ hL
  have dl := adr_ok lf _ hL
  have efa : fa = adr lf := by
    have := hfa.symm.trans (PySem.W.mg_of X G0 (show PySem.W.nsIn K mainGlobals "law" = some (some (.ref (adr lf))) from dl.wh))
    cases this
    rfl
  obtain ⟨fd, F⟩ := dl.fn
  obtain ⟨N, S⟩ := hS
  refine ⟨fd, fun s v => ?_, fun base KB GB => ?_⟩
  · obtain ⟨oc, od, kV, doc, pm, an, cdv, ct, osl, rfl, lk, hcd⟩ := F.ex
    exact .of_eq (S.bd kV doc pm an cdv ct [v] rfl)
  let Γ : Gm := { P := l.prog, w := w, K := K, mg := mg, base := base, fa := adr, ca := fun c => cas.getD c 0, xa := fun _ => 0, xf := fun _ => "", cok := fun c => decide (c < kr.length) }
  have ca_of : ∀ c C, cas[c]? = some C → Γ.ca c = C := fun c C e => by
    show cas.getD c 0 = C
    rw [List.getD_eq_getElem?_getD, e]
    rfl
  have kf : ∀ c r, kr[c]? = some r → KF K (Γ.ca c) r := fun c r e => by
    obtain ⟨C, h1, h2⟩ := hK.get e
    rw [ca_of c C h1]
    exact h2
  have kr_of : ∀ c, Γ.cok c = true → ∃ r, kr[c]? = some r := fun c e => ⟨kr[c]'(of_decide_eq_true e), List.getElem?_eq_getElem _⟩
  have own : ∀ c, Γ.cok c = true → OwnOk Γ c := fun c e => by
    obtain ⟨r, er⟩ := kr_of c e
    have k := kf c r er
    refine ⟨k.cls, k.fc, k.sp, k.tk, k.mro, fun T hT => ?_⟩
    simp only [List.mem_cons, List.not_mem_nil, or_false] at hT
    rcases hT with rfl | rfl | rfl | rfl | rfl
    · exact kit_refT (by decide +kernel) k.t1
    · exact kit_refT (by decide +kernel) k.t2
    · exact kit_refT (by decide +kernel) k.t3
    · exact kit_refT (by decide +kernel) k.t4
    · exact kit_refT (by decide +kernel) k.t5
  have ke : ∀ c, Γ.cok c = true → KlEq Γ (mkGc tab (cs.map (·.2)) kr ats) c := fun c e => by
    obtain ⟨r, er⟩ := kr_of c e
    have k := kf c r er
    refine ⟨fun g hg => ?_, k.nn, fun T hT => ?_, fun d' hd => ?_⟩
    · obtain ⟨_, t, h1, h2, h3⟩ := findW_get (show findW (.eqm c) "__eq__" 0 tab = some g from hg)
      rw [Nat.sub_zero] at h1
      have dk := (adr_ok _ t h1).wh
      rw [h2, h3] at dk
      obtain ⟨C, q1, q2, q3⟩ := dk
      rw [← ca_of c C q1] at q2
      exact ⟨q2, q3⟩
    · simp only [List.mem_cons, List.not_mem_nil, or_false] at hT
      rcases hT with rfl | rfl | rfl | rfl | rfl | rfl | rfl
      · exact nf_of k.u0
      · exact nf_of k.u1
      · exact nf_of k.u2
      · exact nf_of k.u3
      · exact nf_of k.u4
      · exact nf_of k.u5
      · exact nf_of k.u6
    · obtain ⟨r', er'⟩ := kr_of d' hd
      obtain ⟨C, h1, _⟩ := hK.get er
      obtain ⟨E, h2, _⟩ := hK.get er'
      rw [ca_of c C h1, ca_of d' E h2]
      have z := hO c d' C E h1 h2
      unfold PySem.W.kitOne at z
      unfold PySem.W.notFirst
      split at z
      · rename_i q
        rw [show (Value.ref E == Value.ref C) = true from q]
        rfl
      · by_cases hdc : d' = c
        · subst hdc
          rw [h1] at h2
          cases Option.some.inj h2
          simp
        · rw [show (d' == c) = false from beq_eq_false_iff_ne.mpr hdc] at z
          unfold PySem.W.kitCls at z
          dsimp only at z
          split at z
          · rw [z]
            simp
          · cases z
  have kl : Kl Γ (mkGc tab (cs.map (·.2)) kr ats) (mkDc tab cs kr ats).ats := by
    refine ⟨fun c x f i e1 e2 => ?_, fun c x f g e1 e2 => ?_⟩
    · have e2 : atF tab kr ats c f = some (.inl i) := e2
      unfold atF at e2
      split at e2
      · rename_i r er
        have k := kf c r er
        obtain ⟨_, e3⟩ := numb_get (show (numb 0 ats).lookup x = some f from e1)
        rw [Nat.sub_zero] at e3
        rw [e3] at e2
        dsimp only at e2
        split at e2
        · rename_i j hj
          cases Option.some.inj e2
          exact ⟨k.cls, k.sl.get hj⟩
        · split at e2
          · cases Option.some.inj e2
          · cases e2
      · cases e2
    · have e2 : atF tab kr ats c f = some (.inr g) := e2
      unfold atF at e2
      split at e2
      · rename_i r er
        have k := kf c r er
        obtain ⟨_, e3⟩ := numb_get (show (numb 0 ats).lookup x = some f from e1)
        rw [Nat.sub_zero] at e3
        rw [e3] at e2
        dsimp only at e2
        split at e2
        · cases Option.some.inj e2
        · split at e2
          · rename_i g' hg
            cases Option.some.inj e2
            obtain ⟨_, t, h1, h2, h3⟩ := findW_get hg
            rw [Nat.sub_zero] at h1
            have dk := (adr_ok _ t h1).wh
            rw [h2, h3] at dk
            obtain ⟨C, p, rest, q1, q2, q3, q4, q5⟩ := dk
            rw [← ca_of c C q1] at q2
            exact ⟨k.cls, p, rest, q2, q3, q4, q5⟩
          · cases e2
      · cases e2
  have km : ∀ x c, (mkDc tab cs kr ats).cls.lookup x = some c → Γ.mg x = some (.ref (Γ.ca c)) ∧ PySem.W.keepIn Γ.K (.ref (Γ.ca c)) = true ∧ KlMk Γ (mkGc tab (cs.map (·.2)) kr ats) c ∧ KlIs Γ c := fun x c e => by
    obtain ⟨_, e3⟩ := numb_get (show (numb 0 (kr.map (·.x))).lookup x = some c from e)
    rw [Nat.sub_zero, List.getElem?_map] at e3
    cases er : kr[c]? with
    | none => rw [er] at e3; cases e3
    | some r =>
      rw [er] at e3
      cases Option.some.inj e3
      have k := kf c r er
      have hlt := (List.getElem?_eq_some_iff.mp er).1
      refine ⟨PySem.W.mg_of X G0 k.ns, k.kp, ⟨fun f m hi => ?_, decide_eq_true hlt⟩, ⟨fun T hT => ?_, fun d' hd => ?_⟩⟩
      · have hi : iniF tab kr c = some (f, m) := hi
        unfold iniF at hi
        rw [er] at hi
        dsimp only at hi
        split at hi
        · rename_i g hg
          cases Option.some.inj hi
          obtain ⟨_, t, h1, h2, h3⟩ := findW_get hg
          rw [Nat.sub_zero] at h1
          have dk := (adr_ok _ t h1).wh
          rw [h2] at dk
          obtain ⟨C, q1, q2⟩ := dk
          rw [← ca_of c C q1] at q2
          exact q2
        · cases hi
      · simp only [List.mem_cons, List.not_mem_nil, or_false] at hT
        rcases hT with rfl | rfl | rfl | rfl | rfl | rfl | rfl
        · exact kit_tref rfl k.cls.ic k.ty k.u0
        · exact kit_tref rfl k.cls.ic k.ty k.u1
        · exact kit_tref rfl k.cls.ic k.ty k.u2
        · exact kit_tref rfl k.cls.ic k.ty k.u3
        · exact kit_tref rfl k.cls.ic k.ty k.u4
        · exact kit_tref rfl k.cls.ic k.ty k.u5
        · exact kit_tref rfl k.cls.ic k.ty k.u6
      · obtain ⟨r', er'⟩ := kr_of d' hd
        obtain ⟨C, h1, _⟩ := hK.get er
        obtain ⟨E, h2, _⟩ := hK.get er'
        rw [ca_of c C h1, ca_of d' E h2]
        exact hO c d' C E h1 h2
  have T : Tb Γ (mkGc tab (cs.map (·.2)) kr ats) (mkDc tab cs kr ats) (mkF (tab.map (·.d))) := by
    refine ⟨fun x f e => ?_, fun x g e => ?_, fun x hx => ?_, own, fun f d e => ?_, kl, ke, km, ⟨fun _ _ _ z => (by cases z), fun _ _ _ z => (by cases z), fun _ _ z => (by obtain ⟨_, _, z⟩ := z; cases z)⟩, fun _ _ _ z => (by cases z), fun _ _ z => (by cases z), fun _ _ z => (by cases z), fun f e => ?_⟩
    · obtain ⟨_, t, ht, hw, rfl⟩ := fnsOf_get (show (fnsOf 0 tab).lookup x = some f from e)
      rw [Nat.sub_zero] at ht
      have dk := (adr_ok f t ht).wh
      rw [hw] at dk
      exact PySem.W.mg_of X G0 dk
    · rcases lookup_app e with e | e
      · obtain ⟨_, e2⟩ := numb_get e
        rw [Nat.sub_zero, List.getElem?_map] at e2
        cases ht : cs[g]? with
        | none => rw [ht] at e2; cases e2
        | some t =>
          rw [ht] at e2
          cases Option.some.inj e2
          obtain ⟨u, w', h1, h2, h3⟩ := AllV.get (x := t.1) (v := t.2) hC ht
          refine ⟨t.2, u, w', ?_, PySem.W.mg_of X G0 h1, h2, fun L m H => h3 Γ L m H rfl⟩
          show gvF tab.length (cs.map (·.2)) g = _
          unfold gvF
          rw [List.getElem?_map, ht]
          rfl
      · obtain ⟨e1, e2⟩ := shift_get e
        obtain ⟨_, t, ht, hw, rfl⟩ := fnsOf_get e2
        rw [Nat.sub_zero] at ht
        have hl := (List.getElem?_eq_some_iff.mp ht).1
        have dk := (adr_ok _ t ht).wh
        rw [hw] at dk
        refine ⟨.fn (g - cs.length), .ref (adr (g - cs.length)), .ref (adr (g - cs.length)), ?_, PySem.W.mg_of X G0 dk, rfl, fun L m H => rfl⟩
        show gvF tab.length (cs.map (·.2)) g = _
        unfold gvF
        rw [List.getElem?_eq_none (by rw [List.length_map]; exact e1), List.length_map, decide_eq_true (by omega)]
    · exact PySem.W.mg_none_of X G0 (hN.mem hx)
    · have e : (tab.map (·.d))[f]? = some d := e
      rw [List.getElem?_map] at e
      cases ht : tab[f]? with
      | none => rw [ht] at e; cases e
      | some t =>
        rw [ht] at e
        cases Option.some.inj e
        obtain ⟨N', ps, S'⟩ := hDS f t ht
        obtain ⟨fd', F'⟩ := (adr_ok f t ht).fn
        exact ⟨t.x, t.q, t.st, fd', N', ps, F', S'.sc, F'.binds S'.bd, S'.ar, S'.sl, S'.ck⟩
    · have e : (tab.map (·.d))[f]? = none := e
      rw [List.getElem?_map] at e
      cases ht : tab[f]? with
      | some t => rw [ht] at e; cases e
      | none =>
        obtain ⟨fd', F'⟩ := (adr_no f ht).fn
        exact ⟨F'.kp, fd', ["script"], F'.binds S.bd⟩
  rw [efa]
  have hf : mkF (tab.map (·.d)) lf = some d := by
    show (tab.map (·.d))[lf]? = _
    rw [List.getElem?_map, hL]
    rfl
  refine FnOk.imp (fnS (Γ := Γ) (lvI T rfl n) hf F S.sc S.ar S.sl S.ck) fun vs H Q E z => ?_
  obtain ⟨a, ns, rfl, hl, ho, hs, q⟩ := z
  obtain ⟨h', e⟩ := hlaw ns hl
  refine ⟨[], [], [], [.scr (ns.map .int)], ⟨rfl, .nil, fun _ z => (by cases z), fun i a o e => (by simp at e), fun _ z => (by cases z), fun _ z => (by cases z)⟩, ⟨⟨a, ns.map V.int, rfl, ?_, ints_map⟩, trivial⟩, ?_⟩
  · rcases hs with (hs | ⟨o, hs⟩) | hs
    · rcases ho a with z | ⟨o, xs, z⟩
      · rw [hs] at z; cases z
      · rw [hs] at z; cases z
    · exact .inl ⟨o, hs⟩
    · obtain ⟨o, its, n, h1, h2, h3, h4, h5, h6⟩ := hs
      exact .inr ⟨o, its, n, h1, h2, h3, h4, h5, h6⟩
  · rw [e]
    intro m' H' u _ _ r
    cases (show u = .bl true from r)
    exact q H'
end Mi
set_option Elab.async false
set_option linter.all false
set_option maxRecDepth 100000
set_option maxHeartbeats 4000000
namespace Mi
open PySem PySem.Spec PyProof.Rows L2 LamX
def callH (K : PySem.W.Frag) (T : List Addr) (a : Addr) (o : Obj) (ns : List Int) : Hp := fun b => match decide (b ∈ T) with
  | true => some (.tbl #[])
  | false => match decide (b = a), K.lookup a with
    | true, none => some (.frz o (.lst (ns.map V.int)))
    | _, _ => none
section
variable {K : PySem.W.Frag} {T : List Addr} {a b : Addr} {o : Obj} {ns : List Int} {u : HO}
theorem callH_in (h : b ∈ T) : callH K T a o ns b = some (.tbl #[]) := by
  unfold callH
  rw [decide_eq_true h]
theorem callH_a (h : a ∉ T) (hk : K.lookup a = none) : callH K T a o ns a = some (.frz o (.lst (ns.map V.int))) := by
  unfold callH
  rw [decide_eq_false h, decide_eq_true rfl, hk]
theorem callH_some (h : callH K T a o ns b = some u) : (b ∈ T ∧ u = .tbl #[]) ∨ (b = a ∧ K.lookup a = none ∧ u = .frz o (.lst (ns.map V.int))) := by
  unfold callH at h
  split at h
  · rename_i q
    cases h
    exact .inl ⟨of_decide_eq_true q, rfl⟩
  · split at h
    · rename_i q1 q2
      cases h
      exact .inr ⟨of_decide_eq_true q1, q2, rfl⟩
    · cases h
end
def spLawT (K : PySem.W.Frag) (n : Nat) (cs : List (Addr × Addr)) : Sp := fun vs H Q _ => ∃ (a : Addr) (ns : List Int), vs = [.ref a] ∧ ns.length ≤ n ∧ (∀ p ∈ cs, H p.2 = some (.tbl #[])) ∧ (∀ b, H b = none ∨ (∃ ps, H b = some (.tbl ps)) ∨ ∃ o xs, H b = some (.frz o (.lst xs))) ∧ SqL K H a (ns.map V.int) ∧ ∀ H', Q (.bl true) H'
def LawG (P : Program) (w : World) (K : PySem.W.Frag) (CX : CXT) (k n : Nat) (mg : Str → Option Value) (fa : Addr) (cs : List (Addr × Addr)) : Prop := ∀ base : Heap, K.In base → base.Ns mainGlobals mg → (∀ p ∈ cs, TabB base mg p.1 p.2) →
  ∃ fd ps, FnGk P w K mg base CX k fa fd ps (spLawT K n cs) ∧ Binds K fd ps []
theorem call_law {P : Program} {w : World} {K : PySem.W.Frag} {mg mb : Str → Option Value} {CX : CXT} {k n : Nat} {fa a : Addr} {cs : List (Addr × Addr)} {s : Shared} {vs : List Value} {ns : List Int}
    (kin : K.In s.heap) (gl : s.heap.Ns mainGlobals mg) (bl : s.heap.Ns builtinsNs mb) (blt : ∀ x : Str, x ≠ "__name__" → mb x = bootBuiltins x) (lim : s.heap.NoLimit) (gens : s.gens = #[]) (tE : ∀ p ∈ cs, s.heap.get? p.2 = some (PySem.W.tabObj #[]))
    (tK : ∀ p ∈ cs, K.lookup p.2 = none) (tC : ∀ p ∈ cs, PySem.W.CodeHd s.heap p.1 p.2) (bmn : ∃ (bm : Addr) (ob : Obj), mg "__builtins__" = some (.ref bm) ∧ bm ≠ builtinsNs ∧ s.heap.get? bm = some ob ∧ ob.cls = .type "module" ∧ ob.dict = some builtinsNs ∧ ob.data = .plain)
    (sc : s.heap.get? a = some { cls := .type "list", data := .seq vs.toArray }) (isI : IntsAre vs ns) (le : ns.length ≤ n) (few : n ≤ sizeLine) (room : Room k callerA) (fn : LawG P w K CX k n mg fa cs) (calm : ∀ H e s', CX [] H s (fun _ _ _ => False) e s' → False) :
    codeAny (model P w) callerA (.call (.ref fa) ⟨[.ref a], []⟩) (fun r s' => r = .ok (.ret (.bool true)) ∧ OldK s.heap s'.heap ∧ s'.os = s.os ∧ AllBare s'.gens) s := by
  have few := Nat.le_trans le few
  let T := cs.map (·.2)
  have tab : ∀ b, b ∈ T → ∃ p ∈ cs, p.2 = b ∧ s.heap.get? b = some (PySem.W.tabObj #[]) := fun b hb => by
    obtain ⟨p, hp, rfl⟩ := List.mem_map.mp hb
    exact ⟨p, hp, rfl, tE p hp⟩
  have aT : a ∉ T := fun z => by
    obtain ⟨_, _, _, q⟩ := tab a z
    rw [sc] at q
    cases congrArg Obj.data (Option.some.inj q)
  let H : Hp := callH K T a { cls := .type "list", data := .seq vs.toArray } ns
  have hT : ∀ p ∈ cs, H p.2 = some (.tbl #[]) := fun p hp => callH_in (List.mem_map.mpr ⟨p, hp, rfl⟩)
  have ok : HOk P w H s.heap := fun b u z => by
    rcases callH_some z with ⟨hb, rfl⟩ | ⟨rfl, _, rfl⟩
    · exact (tab b hb).choose_spec.2.2
    · exact ⟨sc, by rw [List.length_map]; exact few, vs, _, vals_ints isI, sc⟩
  -- what the abstract heap does not hold is in the base
  have low : ∀ {b : Addr} {o : Obj}, s.heap.get? b = some o → (∀ vs n, o.data ≠ .seq vs n) → o.data ≠ .fields #[] → (hidT s.heap H).get? b = some o := fun {b o} e n1 n2 => by
    refine hidT_get e ?_
    cases q : H b with
    | none => rfl
    | some u =>
      rcases callH_some q with ⟨hb, _⟩ | ⟨rfl, _, _⟩
      · obtain ⟨_, _, _, z⟩ := tab b hb
        rw [e] at z
        cases z
        exact absurd rfl n2
      · rw [sc] at e
        cases e
        exact absurd rfl (n1 _ _)
  have lowN : ∀ {b : Addr} {m : Str → Option Value}, s.heap.Ns b m → (hidT s.heap H).Ns b m := fun {b m} ⟨o, es, ep, e, d, r⟩ => ⟨o, es, ep, low e (fun _ _ z => by rw [d] at z; cases z) (fun z => by rw [d] at z; cases z), d, r⟩
  have lowK : K.In (hidT s.heap H) := fun b o e => hidT_get (kin b o e) (by
    cases q : H b with
    | none => rfl
    | some u =>
      rcases callH_some q with ⟨hb, _⟩ | ⟨rfl, z, _⟩
      · obtain ⟨p, hp, rfl, _⟩ := tab b hb
        rw [tK p hp] at e
        cases e
      · rw [z] at e
        cases e)
  have md : L2.Mod K mg (hidT s.heap H) := ⟨lowK, lowN gl, ⟨mb, lowN bl, blt⟩, lim.elim fun mc h => ⟨mc, lowN h.1, h.2⟩⟩
  have tabs : ∀ p ∈ cs, TabB (hidT s.heap H) mg p.1 p.2 := fun p hp => by
    have here := tE p hp
    obtain ⟨bm, ob, b1, b2, b3, b4, b5, b6⟩ := bmn
    refine ⟨?_, ⟨bm, ob, b1, b2, fun z => ?_, fun z => ?_, low b3 (fun _ _ z => by rw [b6] at z; cases z) (fun z => by rw [b6] at z; cases z), b4, b5, b6⟩, fun z => ?_⟩
    · obtain ⟨o, us, file, tf, flags, tg, inF, text, tt, e1, r1, r2, r3, rest⟩ := tC p hp
      exact ⟨o, us, file, tf, flags, tg, inF, text, tt, low e1 (fun _ _ z => by rw [r2] at z; cases z) (fun z => by rw [r2] at z; cases z; cases r3), r1, r2, r3, rest⟩
    · obtain ⟨o, es, ep, e, d, _⟩ := gl
      rw [z, e] at b3
      cases b3
      rw [d] at b6
      cases b6
    · rw [z, here] at b3
      cases b3
      cases b6
    · obtain ⟨o, es, ep, e, d, _⟩ := gl
      rw [z, here] at e
      cases e
      cases d
  have env : Env0 P w K mg (hidT s.heap H) callerA [] s H := ⟨rfl, md, fun _ _ e => of_hidT e, Nat.le_of_eq (hidT_size _ _), True.intro, fun b hb => (by cases (show b ∈ ([] : List Addr) from hb)), ok, .of_eq gens⟩
  have sq : SqL K H a (ns.map V.int) := by
    cases hk : K.lookup a with
    | none => exact .inl (.inr ⟨_, callH_a aT hk⟩)
    | some o =>
      have e := kin a o hk
      rw [sc] at e
      cases e
      exact .inr ⟨_, vs.toArray, _, hk, rfl, rfl, rfl, by rw [List.size_toArray, isI.length]; exact few, by simpa using vals_ints isI⟩
  have only : ∀ b, H b = none ∨ (∃ ps, H b = some (.tbl ps)) ∨ ∃ o xs, H b = some (.frz o (.lst xs)) := fun b => by
    cases q : H b with
    | none => exact .inl rfl
    | some u =>
      rcases callH_some q with ⟨_, rfl⟩ | ⟨_, _, rfl⟩
      · exact .inr (.inl ⟨_, rfl⟩)
      · exact .inr (.inr ⟨_, _, rfl⟩)
  obtain ⟨fd, ps, F, hb⟩ := fn _ lowK (lowN gl) tabs
  have ask : spLawT K n cs [.ref a] H (fun v _ => v = .bl true) fun _ _ _ => False := ⟨a, ns, rfl, le, hT, only, sq, fun _ => rfl⟩
  have len : [V.ref a].length = ps.length := F.len _ _ _ _ ask
  have bd := hb s [.ref a] kin (by rw [List.append_nil]; exact len)
  rw [List.append_nil] at bd
  refine codeAny_mono (F.run callerA [] s H ⟨[.ref a], []⟩ [.ref a] [.ref a] _ _ rfl room env bd (.cons rfl .nil) ask) fun r s' h => ?_
  cases r with
  | error e => exact (calm H e s' h).elim
  | ok fl =>
    cases fl with
    | next | brk | cont => exact False.elim h
    | ret u =>
      obtain ⟨v, H', os, bare, un, ok', r', q⟩ := h
      cases (show v = .bl true from q)
      obtain rfl : u = .bool true := r'
      have more : ∀ b, b ∈ T → ∃ m : Array Value, s'.heap.get? b = some { cls := .none, data := .fields m } := fun b hb => by
        obtain ⟨p, hp, rfl, _⟩ := tab b hb
        obtain ⟨m, z⟩ := un.tbls p.2 #[] (hT p hp)
        exact ⟨_, ok' p.2 _ z⟩
      have same : ∀ b o, b ∉ T → s.heap.get? b = some o → s'.heap.get? b = some o := fun b o nb e => by
        cases q : H b with
        | none => exact un.keep b o e q (fun z => by cases (show b ∈ ([] : List Addr) from z)) (by simp)
        | some u =>
          rcases callH_some q with ⟨z, _⟩ | ⟨rfl, _, rfl⟩
          · exact absurd z nb
          · have z := ok' b _ (un.frzs b _ _ q)
            rw [sc] at e
            cases e
            exact z.1
      refine ⟨rfl, ⟨fun b o (e : _ = _) => ?_, fun b o e => ?_⟩, os, bare⟩
      · by_cases hb : b ∈ T
        · obtain ⟨p, hp, rfl, z⟩ := tab b hb
          obtain ⟨m, hm⟩ := more _ hb
          rw [z] at e
          cases e
          exact .inr (.inl ⟨((tC p hp).tab z).isCodeTable, rfl, #[], m, rfl, by rw [Array.empty_append]; exact hm⟩)
        · exact .inl (same b o hb e)
      · by_cases hb : b ∈ T
        · obtain ⟨m, hm⟩ := more b hb
          exact ⟨_, hm⟩
        · exact ⟨o, same b o hb e⟩
theorem walk_g {l : PySem.W.OpenLaw} {n k : Nat} {q : Program} {loose : List Str} {XP : (Str → Option Value) → Heap → Prop} {YP : World → Heap → Prop} {d : DefRec} {K : Params → PySem.W.Frag} {CX : World → CXT} (hn : l.most = some n) (few : n ≤ sizeLine) (pl : d.params.defaults = []) (room : Room k callerA)
    (hY : ∀ (w : World) (h : Heap), YP w h → (K w.params).In h) (ls : List Str) (tb : ∀ (w : World) (x : Str), x ∈ ls → ∃ c P d, PySem.W.tabIn (K w.params) x = some (c, P) ∧ (recsOf q).find? (fun e => e.name == x) = some d ∧ (K w.params).lookup P = none)
    (law : ∀ (w : World) (mg : Str → Option Value) (fa : Addr) (h : Heap) (cs : List (Addr × Addr)), YP w h → (K w.params).In h → h.Ns mainGlobals mg → mg d.name = some (.ref fa) → (∀ p, p ∈ cs ↔ ∃ x ∈ ls, PySem.W.tabIn (K w.params) x = some p) → LawG l.prog w (K w.params) (CX w) k n mg fa cs)
    (calm : ∀ (w : World) (H : Hp) (s : Shared) (e : Value) (s' : Shared), CX w [] H s (fun _ _ _ => False) e s' → False) : PySem.W.WalkO q loose XP YP l.row.toRowW d [] (fun f vs => PySem.call f vs) := by
  refine Att.attach_callB hn pl fun w s₀ s mg mb fa o pm cd doc a vs ns G Y ho hd hcd hmg sc isI hl hbits gens => ?_
  have kin := hY w _ Y
  have mem : ∀ p, p ∈ ls.filterMap (PySem.W.tabIn (K w.params)) ↔ ∃ x ∈ ls, PySem.W.tabIn (K w.params) x = some p := fun p => List.mem_filterMap
  have all : ∀ p ∈ ls.filterMap (PySem.W.tabIn (K w.params)), (PySem.W.CodeHd s.heap p.1 p.2 ∧ s.heap.get? p.2 = some (PySem.W.tabObj #[])) ∧ (K w.params).lookup p.2 = none := fun p hp => by
    obtain ⟨x, hx, e⟩ := (mem p).mp hp
    obtain ⟨c, P, d, h1, h2, h3⟩ := tb w x hx
    rw [h1] at e
    cases e
    exact ⟨PySem.W.tab_of G.T kin h2 h1, h3⟩
  exact call_law kin G.T.g G.T.b G.T.builtins G.T.nolimit gens (fun p hp => (all p hp).1.2) (fun p hp => (all p hp).2) (fun p hp => (all p hp).1.1) G.T.bmain sc isI hl few room (law w mg fa _ _ Y kin G.T.g hmg mem) fun H e s' => calm w H s e s'
end Mi
set_option Elab.async false
set_option linter.all false
set_option maxRecDepth 100000
set_option maxHeartbeats 4000000
namespace Mi
open PySem PySem.Spec PyProof.Rows L2 LamX
inductive Kn where
  | low
  | high (lm : Bool)
  | met (M : Mt)
structure ER where
  x : Str
  f : Option Str
def exsOf (n : Nat) : List ER → Xts
  | [] => []
  | r :: l => (r.x, n, r.f) :: exsOf (n + 1) l
theorem exsOf_get : ∀ {l : List ER} {n : Nat} {x : Str} {c : Nat} {f : Option Str}, (exsOf n l).lookup x = some (c, f) → n ≤ c ∧ l[c - n]? = some ⟨x, f⟩
  | [], _, _, _, _, e => by cases e
  | y :: r, n, x, c, f, e => by
    have e : ((y.x, n, y.f) :: exsOf (n + 1) r).lookup x = some (c, f) := e
    rw [List.lookup_cons] at e
    cases hb : x == y.x with
    | true =>
      rw [hb] at e
      cases Option.some.inj e
      refine ⟨Nat.le_refl _, ?_⟩
      rw [Nat.sub_self, eq_of_beq hb]
      rfl
    | false =>
      rw [hb] at e
      obtain ⟨h1, h2⟩ := exsOf_get (l := r) (n := n + 1) e
      refine ⟨by omega, ?_⟩
      rw [show c - n = (c - (n + 1)) + 1 by omega]
      exact h2
def mkDx (tab : List TC) (cs : List (Str × Vl)) (kr : List KR) (ats : List Str) (er : List ER) : Nm := { mkDc tab cs kr ats with exs := exsOf 0 er, fng := fnsOf 0 tab }
def kdAt (kds : List Kn) (f : Nat) : Kn := kds.getD f .low
def metF (tab : List TC) (kds : List Kn) (f : Nat) : Option Mt := match tab[f]? with
  | some _ => match kdAt kds f with
    | .met M => some M
    | _ => none
  | none => none
def mkGx (tab : List TC) (kds : List Kn) (cs : List Vl) (kr : List KR) (ats : List Str) (er : List ER) : GT := { mkGc tab cs kr ats with exk := fun c => (er[c]?).map (·.f.isSome), met := metF tab kds }
def mkFl (tab : List TC) (kds : List Kn) : Nat → Option FD := fun f => match tab[f]? with
  | some t => match kdAt kds f with
    | .low => some t.d
    | _ => none
  | none => none
def mkFh (tab : List TC) (kds : List Kn) : Nat → Option FD := fun f => match tab[f]? with
  | some t => match kdAt kds f with
    | .high _ => some t.d
    | _ => none
  | none => none
def CkX (D : Nm) (t : TC) (N ps : List Str) : Kn → Prop
  | .low => ps.length = t.d.ar ∧ N.length = t.d.sl ∧ chkS D (Sc.top N (defScope t.st)) t.d.body (defBody t.st) = true
  | .high lm => ps.length = t.d.ar ∧ N.length = t.d.sl ∧ chkS D { N := N, sc := defScope t.st, fn := none, gd := true, lm := lm } t.d.body (defBody t.st) = true
  | .met M => t.q = t.x ∧ ∃ a, ps = [a] ∧ chkMet D.exs M N (defScope t.st) a (defBody t.st) = true
structure DSx (D : Nm) (t : TC) (kd : Kn) (N ps : List Str) : Prop where
  sc : FnScope N ps (defScope t.st)
  bd : ∀ (kV doc pm : Value) (an : Option Addr) (cdv ct : Value) (us : List Value), us.length = ps.length → bindArgs (PySem.W.fnOf t.x t.q (defArgs t.st) (defBody t.st) (defScope t.st) .none kV doc pm an cdv ct) ⟨us, []⟩ = pure (ps.zip us)
  ck : CkX D t N ps kd
def AllSx (D : Nm) : List TC → List Kn → Prop
  | [], [] => True
  | t :: r, k :: l => (∃ N ps, DSx D t k N ps) ∧ AllSx D r l
  | _, _ => False
theorem AllSx.get {D : Nm} : ∀ {l : List TC} {ks : List Kn} (f : Nat) (t : TC), AllSx D l ks → l[f]? = some t → ∃ N ps, DSx D t (kdAt ks f) N ps
  | [], _, _, _, _, e => by simp at e
  | _ :: _, [], _, _, h, _ => h.elim
  | y :: r, k :: ks, 0, t, h, e => by
    simp at e
    subst e
    exact h.1
  | y :: r, k :: ks, i + 1, t, h, e => AllSx.get (l := r) (ks := ks) i t h.2 (by simpa using e)
def XMk (P : Program) (K : PySem.W.Frag) (C : Addr) : Option Str → Prop
  | some f => (XfC K C ∧ PySem.W.findIn K (.ref C) f = some none) ∧ ∃ fI B newId initId bmB sf ga, SupK P K C fI B newId initId bmB sf ga f
  | none => ∃ B newId initId bmB, ExcBaseFacts B newId initId bmB ∧ PySem.W.excIn K C bmB newId = true ∧ PySem.W.keepIn K (.ref C) = true ∧ PySem.W.subIn K (.ref C) (.type "BaseException") = some true ∧ PySem.W.typeIn K (.ref C) = some (.type "type")
structure XF (P : Program) (K : PySem.W.Frag) (C : Addr) (r : ER) : Prop where
  ns : PySem.W.nsIn K mainGlobals r.x = some (some (.ref C))
  how : XMk P K C r.f
def AllXF (P : Program) (K : PySem.W.Frag) : List Addr → List ER → Prop
  | [], [] => True
  | C :: cas, r :: kr => XF P K C r ∧ AllXF P K cas kr
  | _, _ => False
theorem AllXF.get {P : Program} {K : PySem.W.Frag} : ∀ {cas : List Addr} {kr : List ER} {c : Nat} {r : ER}, AllXF P K cas kr → kr[c]? = some r → ∃ C, cas[c]? = some C ∧ XF P K C r
  | [], [], _, _, _, e => by simp at e
  | C :: cas, y :: kr, 0, r, h, e => by
    simp at e
    subst e
    exact ⟨C, rfl, h.1⟩
  | C :: cas, y :: kr, c + 1, r, h, e => by
    obtain ⟨D, h1, h2⟩ := AllXF.get (cas := cas) (kr := kr) (c := c) h.2 (by simpa using e)
    exact ⟨D, by simpa using h1, h2⟩
  | [], _ :: _, _, _, h, _ => h.elim
  | _ :: _, [], _, _, h, _ => h.elim
def AllXm (K : PySem.W.Frag) (xas : List Addr) : Prop := ∀ (c d : Nat) (C E : Addr), xas[c]? = some C → xas[d]? = some E → PySem.W.exmOne K (.ref C) (.ref E) = some (decide (c = d))
def xmRow (K : PySem.W.Frag) (c : Nat) (C : Addr) (n : Nat) : List Addr → Prop
  | [] => True
  | E :: r => PySem.W.exmOne K (.ref C) (.ref E) = some (decide (c = n)) ∧ xmRow K c C (n + 1) r
def xmAll (K : PySem.W.Frag) (xas : List Addr) (n : Nat) : List Addr → Prop
  | [] => True
  | C :: r => xmRow K n C 0 xas ∧ xmAll K xas (n + 1) r
theorem xmRow.get {K : PySem.W.Frag} {c : Nat} {C E : Addr} : ∀ {l : List Addr} {n d : Nat}, xmRow K c C n l → l[d]? = some E → PySem.W.exmOne K (.ref C) (.ref E) = some (decide (c = n + d))
  | [], _, _, _, e => by simp at e
  | y :: r, n, 0, h, e => by
    simp at e
    subst e
    exact h.1
  | y :: r, n, d + 1, h, e => by
    have z := xmRow.get (l := r) (n := n + 1) (d := d) h.2 (by simpa using e)
    rw [show n + (d + 1) = n + 1 + d by omega]
    exact z
theorem xmAll.get {K : PySem.W.Frag} {xas : List Addr} {C : Addr} : ∀ {l : List Addr} {n c : Nat}, xmAll K xas n l → l[c]? = some C → xmRow K (n + c) C 0 xas
  | [], _, _, _, e => by simp at e
  | y :: r, n, 0, h, e => by
    simp at e
    subst e
    exact h.1
  | y :: r, n, d + 1, h, e => by
    have z := xmAll.get (l := r) (n := n + 1) (c := d) h.2 (by simpa using e)
    rw [show n + (d + 1) = n + 1 + d by omega]
    exact z
theorem xm_all {K : PySem.W.Frag} {xas : List Addr} (h : xmAll K xas 0 xas) : AllXm K xas := fun c d C E e1 e2 => by
  have z := (h.get e1).get e2
  rw [Nat.zero_add, Nat.zero_add] at z
  exact z
def lamQ (x : Str) : Str := (x ++ ".<locals>.") ++ "<lambda>"
def tabsOf (K : PySem.W.Frag) (ls : List Str) : List (Addr × Str) := ls.filterMap fun x => (PySem.W.tabIn K x).map fun p => (p.2, lamQ x)
theorem tabsOf_mem {K : PySem.W.Frag} {ls : List Str} {p : Addr × Str} : p ∈ tabsOf K ls ↔ ∃ x ∈ ls, ∃ c, PySem.W.tabIn K x = some (c, p.1) ∧ p.2 = lamQ x := by
  obtain ⟨P, q⟩ := p
  unfold tabsOf
  rw [List.mem_filterMap]
  constructor
  · rintro ⟨x, hx, e⟩
    cases ht : PySem.W.tabIn K x with
    | none => rw [ht] at e; cases e
    | some y =>
      rw [ht] at e
      cases Option.some.inj e
      exact ⟨x, hx, y.1, ht, rfl⟩
  · rintro ⟨x, hx, c, ht, e⟩
    exact ⟨x, hx, by rw [ht]; simp only at e; rw [e]; rfl⟩
theorem code_of {K : PySem.W.Frag} {x q : Str} {st : Stmt} {a c P : Addr} {fd : FuncData} (hn : PySem.W.nsIn K mainGlobals x = some (some (.ref a))) (F : Fun K x q st a fd) (h : PySem.W.tabIn K x = some (c, P)) : fd.code = .ref c := by
  obtain ⟨oc, od, kV, doc, pm, an, cdv, ct, osl, rfl, lk, hcd⟩ := F.ex
  unfold PySem.W.tabIn at h
  rw [hn] at h
  dsimp only at h
  rw [lk] at h
  dsimp only at h
  show cdv = .ref c
  cases cdv with
  | ref c0 =>
    dsimp only at h
    repeat (split at h)
    all_goals first | (cases h; rfl) | (cases h; done)
  | _ => cases h
theorem law_endX {P : Program} {w : World} {K : PySem.W.Frag} {mg : Str → Option Value} {fa : Addr} {h : Heap} {tab : List TC} {kds : List Kn} {cs : List (Str × Vl)} {kr : List KR} {ats : List Str} {er : List ER} {ls : List Str} {csT : List (Addr × Addr)} {N2 n lf : Nat} {d : FD} {st : Stmt} (X : K.In h) (G0 : h.Ns mainGlobals mg) (hfa : mg "law" = some (.ref fa))
    (hDS : ∀ (f : Nat) (t : TC), tab[f]? = some t → ∃ N ps, DSx (mkDx tab cs kr ats er) t (kdAt kds f) N ps) (hL : tab[lf]? = some ⟨d, "law", "law", st, .mod⟩)
    (hA : ∃ cas, AllKF K cas kr ∧ AllOw K cas ∧ AllDc K cas tab) (hE : ∃ xas, AllXF P K xas er ∧ AllXm K xas) (hC : AllV K cs) (hN : AllN K bNames)
    (hT : ∀ (f : Nat) (t : TC), tab[f]? = some t → kdAt kds f = .high true → t.wh = .mod ∧ t.q = t.x ∧ t.x ∈ ls) (hI : ∀ x ∈ ls, ∃ c P, PySem.W.tabIn K x = some (c, P)) (hU : ∀ x y c d P, x ∈ ls → y ∈ ls → PySem.W.tabIn K x = some (c, P) → PySem.W.tabIn K y = some (d, P) → x = y)
    (hcs : ∀ p, p ∈ csT ↔ ∃ x ∈ ls, PySem.W.tabIn K x = some p)
    (hlaw : ∀ ns : List Int, ns.length ≤ 63 → ∃ h', run2 (mkGx tab kds (cs.map (·.2)) kr ats er) (run (mkGx tab kds (cs.map (·.2)) kr ats er) (mkFl tab kds) N2) (mkFh tab kds) n lf [.scr (ns.map .int)] [] = .ok (.bl true) h') :
    LawG P w K (L2.CX P w) (4 * N2 + 4 * n) 63 mg fa csT := by
  obtain ⟨cas, hK, hO, hA⟩ := hA
  obtain ⟨xas, hX, hXm⟩ := hE
  have at_ : ∀ f : Nat, ∃ a, ∀ t, tab[f]? = some t → DKc K cas t a := fun f => by
    cases hf : tab[f]? with
    | none => exact ⟨0, fun t e => by cases e⟩
    | some t =>
      obtain ⟨a, ha⟩ := AllDc.get hA hf
      exact ⟨a, fun t' e => by cases e; exact ha⟩
  let adr : Nat → Addr := fun f => if f < tab.length then Classical.choose (at_ f) else Classical.choose (at_ lf)
  have adr_ok : ∀ f t, tab[f]? = some t → DKc K cas t (adr f) := fun f t e => by
    have hl := (List.getElem?_eq_some_iff.mp e).1
    show DKc K cas t (if f < tab.length then Classical.choose (at_ f) else Classical.choose (at_ lf))
    rw [if_pos hl]
    exact Classical.choose_spec (at_ f) t e
  have adr_no : ∀ f, tab[f]? = none → DKc K cas ⟨d, "law", "law", st, .mod⟩ (adr f) := fun f e => by
    have hl := List.getElem?_eq_none_iff.mp e
    show DKc K cas _ (if f < tab.length then Classical.choose (at_ f) else Classical.choose (at_ lf))
    rw [if_neg (by omega)]
    exact Classical.choose_spec (at_ lf) _ hL
  have dl := adr_ok lf _ hL
  have efa : fa = adr lf := by
    have := hfa.symm.trans (PySem.W.mg_of X G0 (show PySem.W.nsIn K mainGlobals "law" = some (some (.ref (adr lf))) from dl.wh))
    cases this
    rfl
  intro base KB GB TB
  let Γ : Gm := { P := P, w := w, K := K, mg := mg, base := base, fa := adr, ca := fun c => cas.getD c 0, xa := fun c => xas.getD c 0, xf := fun c => (er.map fun r => r.f.getD "").getD c "", cok := fun c => decide (c < kr.length), tabs := tabsOf K ls }
  have ca_of : ∀ c C, cas[c]? = some C → Γ.ca c = C := fun c C e => by
    show cas.getD c 0 = C
    rw [List.getD_eq_getElem?_getD, e]
    rfl
  have kf : ∀ c r, kr[c]? = some r → KF K (Γ.ca c) r := fun c r e => by
    obtain ⟨C, h1, h2⟩ := hK.get e
    rw [ca_of c C h1]
    exact h2
  have kr_of : ∀ c, Γ.cok c = true → ∃ r, kr[c]? = some r := fun c e => ⟨kr[c]'(of_decide_eq_true e), List.getElem?_eq_getElem _⟩
  have own : ∀ c, Γ.cok c = true → OwnOk Γ c := fun c e => by
    obtain ⟨r, er⟩ := kr_of c e
    have k := kf c r er
    refine ⟨k.cls, k.fc, k.sp, k.tk, k.mro, fun T hT => ?_⟩
    simp only [List.mem_cons, List.not_mem_nil, or_false] at hT
    rcases hT with rfl | rfl | rfl | rfl | rfl
    · exact kit_refT (by decide +kernel) k.t1
    · exact kit_refT (by decide +kernel) k.t2
    · exact kit_refT (by decide +kernel) k.t3
    · exact kit_refT (by decide +kernel) k.t4
    · exact kit_refT (by decide +kernel) k.t5
  have ke : ∀ c, Γ.cok c = true → KlEq Γ (mkGx tab kds (cs.map (·.2)) kr ats er) c := fun c e => by
    obtain ⟨r, er⟩ := kr_of c e
    have k := kf c r er
    refine ⟨fun g hg => ?_, k.nn, fun T hT => ?_, fun d' hd => ?_⟩
    · obtain ⟨_, t, h1, h2, h3⟩ := findW_get (show findW (.eqm c) "__eq__" 0 tab = some g from hg)
      rw [Nat.sub_zero] at h1
      have dk := (adr_ok _ t h1).wh
      rw [h2, h3] at dk
      obtain ⟨C, q1, q2, q3⟩ := dk
      rw [← ca_of c C q1] at q2
      exact ⟨q2, q3⟩
    · simp only [List.mem_cons, List.not_mem_nil, or_false] at hT
      rcases hT with rfl | rfl | rfl | rfl | rfl | rfl | rfl
      · exact nf_of k.u0
      · exact nf_of k.u1
      · exact nf_of k.u2
      · exact nf_of k.u3
      · exact nf_of k.u4
      · exact nf_of k.u5
      · exact nf_of k.u6
    · obtain ⟨r', er'⟩ := kr_of d' hd
      obtain ⟨C, h1, _⟩ := hK.get er
      obtain ⟨E, h2, _⟩ := hK.get er'
      rw [ca_of c C h1, ca_of d' E h2]
      have z := hO c d' C E h1 h2
      unfold PySem.W.kitOne at z
      unfold PySem.W.notFirst
      split at z
      · rename_i q
        rw [show (Value.ref E == Value.ref C) = true from q]
        rfl
      · by_cases hdc : d' = c
        · subst hdc
          rw [h1] at h2
          cases Option.some.inj h2
          simp
        · rw [show (d' == c) = false from beq_eq_false_iff_ne.mpr hdc] at z
          unfold PySem.W.kitCls at z
          dsimp only at z
          split at z
          · rw [z]
            simp
          · cases z
  have kl : Kl Γ (mkGx tab kds (cs.map (·.2)) kr ats er) (mkDx tab cs kr ats er).ats := by
    refine ⟨fun c x f i e1 e2 => ?_, fun c x f g e1 e2 => ?_⟩
    · have e2 : atF tab kr ats c f = some (.inl i) := e2
      unfold atF at e2
      split at e2
      · rename_i r er
        have k := kf c r er
        obtain ⟨_, e3⟩ := numb_get (show (numb 0 ats).lookup x = some f from e1)
        rw [Nat.sub_zero] at e3
        rw [e3] at e2
        dsimp only at e2
        split at e2
        · rename_i j hj
          cases Option.some.inj e2
          exact ⟨k.cls, k.sl.get hj⟩
        · split at e2
          · cases Option.some.inj e2
          · cases e2
      · cases e2
    · have e2 : atF tab kr ats c f = some (.inr g) := e2
      unfold atF at e2
      split at e2
      · rename_i r er
        have k := kf c r er
        obtain ⟨_, e3⟩ := numb_get (show (numb 0 ats).lookup x = some f from e1)
        rw [Nat.sub_zero] at e3
        rw [e3] at e2
        dsimp only at e2
        split at e2
        · cases Option.some.inj e2
        · split at e2
          · rename_i g' hg
            cases Option.some.inj e2
            obtain ⟨_, t, h1, h2, h3⟩ := findW_get hg
            rw [Nat.sub_zero] at h1
            have dk := (adr_ok _ t h1).wh
            rw [h2, h3] at dk
            obtain ⟨C, p, rest, q1, q2, q3, q4, q5⟩ := dk
            rw [← ca_of c C q1] at q2
            exact ⟨k.cls, p, rest, q2, q3, q4, q5⟩
          · cases e2
      · cases e2
  have km : ∀ x c, (mkDx tab cs kr ats er).cls.lookup x = some c → Γ.mg x = some (.ref (Γ.ca c)) ∧ PySem.W.keepIn Γ.K (.ref (Γ.ca c)) = true ∧ KlMk Γ (mkGx tab kds (cs.map (·.2)) kr ats er) c ∧ KlIs Γ c := fun x c e => by
    obtain ⟨_, e3⟩ := numb_get (show (numb 0 (kr.map (·.x))).lookup x = some c from e)
    rw [Nat.sub_zero, List.getElem?_map] at e3
    cases er : kr[c]? with
    | none => rw [er] at e3; cases e3
    | some r =>
      rw [er] at e3
      cases Option.some.inj e3
      have k := kf c r er
      have hlt := (List.getElem?_eq_some_iff.mp er).1
      refine ⟨PySem.W.mg_of X G0 k.ns, k.kp, ⟨fun f m hi => ?_, decide_eq_true hlt⟩, ⟨fun T hT => ?_, fun d' hd => ?_⟩⟩
      · have hi : iniF tab kr c = some (f, m) := hi
        unfold iniF at hi
        rw [er] at hi
        dsimp only at hi
        split at hi
        · rename_i g hg
          cases Option.some.inj hi
          obtain ⟨_, t, h1, h2, h3⟩ := findW_get hg
          rw [Nat.sub_zero] at h1
          have dk := (adr_ok _ t h1).wh
          rw [h2] at dk
          obtain ⟨C, q1, q2⟩ := dk
          rw [← ca_of c C q1] at q2
          exact q2
        · cases hi
      · simp only [List.mem_cons, List.not_mem_nil, or_false] at hT
        rcases hT with rfl | rfl | rfl | rfl | rfl | rfl | rfl
        · exact kit_tref rfl k.cls.ic k.ty k.u0
        · exact kit_tref rfl k.cls.ic k.ty k.u1
        · exact kit_tref rfl k.cls.ic k.ty k.u2
        · exact kit_tref rfl k.cls.ic k.ty k.u3
        · exact kit_tref rfl k.cls.ic k.ty k.u4
        · exact kit_tref rfl k.cls.ic k.ty k.u5
        · exact kit_tref rfl k.cls.ic k.ty k.u6
      · obtain ⟨r', er'⟩ := kr_of d' hd
        obtain ⟨C, h1, _⟩ := hK.get er
        obtain ⟨E, h2, _⟩ := hK.get er'
        rw [ca_of c C h1, ca_of d' E h2]
        exact hO c d' C E h1 h2
  have nb : ∀ x, x ∈ bNames → Γ.mg x = none := fun x hx => PySem.W.mg_none_of X G0 (hN.mem hx)
  have xa_of : ∀ c C, xas[c]? = some C → Γ.xa c = C := fun c C e => by
    show xas.getD c 0 = C
    rw [List.getD_eq_getElem?_getD, e]
    rfl
  have xs : ∀ x c f, (mkDx tab cs kr ats er).exs.lookup x = some (c, f) → er[c]? = some ⟨x, f⟩ ∧ xas[c]? = some (Γ.xa c) ∧ XF P K (Γ.xa c) ⟨x, f⟩ := fun x c f e => by
    obtain ⟨_, h1⟩ := exsOf_get (show (exsOf 0 er).lookup x = some (c, f) from e)
    rw [Nat.sub_zero] at h1
    obtain ⟨C, h2, h3⟩ := hX.get h1
    rw [xa_of c C h2]
    exact ⟨h1, h2, h3⟩
  have xf_of : ∀ c x f, er[c]? = some ⟨x, some f⟩ → f = Γ.xf c := fun c x f e => by
    show f = (er.map fun r => r.f.getD "").getD c ("" : Str)
    rw [List.getD_eq_getElem?_getD, List.getElem?_map, e]
    rfl
  have ek : ExK Γ (mkDx tab cs kr ats er).exs := by
    refine ⟨fun x c f e => PySem.W.mg_of X G0 (xs x c f e).2.2.ns, fun x c f e => ?_, fun c d ⟨x, f, e1⟩ ⟨y, g, e2⟩ => hXm c d _ _ (xs x c f e1).2.1 (xs y d g e2).2.1⟩
    obtain ⟨h1, h2, h3⟩ := xs x c (some f) e
    have m : (XfC K (Γ.xa c) ∧ PySem.W.findIn K (.ref (Γ.xa c)) f = some none) ∧ _ := h3.how
    exact ⟨xf_of c x f h1, m.1.1, m.1.2⟩
  have xm : ∀ x c f, (mkDx tab cs kr ats er).exs.lookup x = some (c, f) → ExMk Γ c f ∧ (mkGx tab kds (cs.map (·.2)) kr ats er).exk c = some f.isSome := fun x c f e => by
    obtain ⟨h1, h2, h3⟩ := xs x c f e
    have m := h3.how
    refine ⟨?_, ?_⟩
    · cases f with
      | none =>
        obtain ⟨B, newId, initId, bmB, z⟩ := m
        exact ⟨B, newId, initId, bmB, z⟩
      | some f =>
        obtain ⟨_, fI, B, newId, initId, bmB, sf, ga, z⟩ := m
        exact ⟨xf_of c x f h1, nb "super" (by decide), fI, B, newId, initId, bmB, sf, ga, z⟩
    · show (er[c]?).map (fun r : ER => r.f.isSome) = _
      rw [h1]
      rfl
  have none_bd : ∀ f, PySem.W.keepIn Γ.K (.ref (Γ.fa f)) = true ∧ ∃ fd ps, Binds Γ.K fd ps [] := fun f => by
    cases ht : tab[f]? with
    | some t =>
      obtain ⟨N', ps, S'⟩ := hDS f t ht
      obtain ⟨fd', F'⟩ := (adr_ok f t ht).fn
      exact ⟨F'.kp, fd', ps, F'.binds S'.bd⟩
    | none =>
      obtain ⟨N', ps, S'⟩ := hDS lf _ hL
      obtain ⟨fd', F'⟩ := (adr_no f ht).fn
      exact ⟨F'.kp, fd', ps, F'.binds S'.bd⟩
  have lowD : ∀ {f d'}, mkFl tab kds f = some d' → ∃ t, tab[f]? = some t ∧ kdAt kds f = .low ∧ t.d = d' := fun {f d'} e => by
    unfold mkFl at e
    split at e
    · rename_i t ht
      split at e
      · rename_i hk
        cases e
        exact ⟨t, ht, hk, rfl⟩
      · cases e
    · cases e
  have highD : ∀ {f d'}, mkFh tab kds f = some d' → ∃ t lm, tab[f]? = some t ∧ kdAt kds f = .high lm ∧ t.d = d' := fun {f d'} e => by
    unfold mkFh at e
    split at e
    · rename_i t ht
      split at e
      · rename_i lm hk
        cases e
        exact ⟨t, lm, ht, hk, rfl⟩
      · cases e
    · cases e
  have T : Tb Γ (mkGx tab kds (cs.map (·.2)) kr ats er) (mkDx tab cs kr ats er) (mkFl tab kds) := by
    refine ⟨fun x f e => ?_, fun x g e => ?_, nb, own, fun f d e => ?_, kl, ke, km, ek, xm, fun f M e => ?_, fun x f e => ?_, fun f e => none_bd f⟩
    · obtain ⟨_, t, ht, hw, rfl⟩ := fnsOf_get (show (fnsOf 0 tab).lookup x = some f from e)
      rw [Nat.sub_zero] at ht
      have dk := (adr_ok f t ht).wh
      rw [hw] at dk
      exact PySem.W.mg_of X G0 dk
    · rcases lookup_app e with e | e
      · obtain ⟨_, e2⟩ := numb_get e
        rw [Nat.sub_zero, List.getElem?_map] at e2
        cases ht : cs[g]? with
        | none => rw [ht] at e2; cases e2
        | some t =>
          rw [ht] at e2
          cases Option.some.inj e2
          obtain ⟨u, w', h1, h2, h3⟩ := AllV.get (x := t.1) (v := t.2) hC ht
          refine ⟨t.2, u, w', ?_, PySem.W.mg_of X G0 h1, h2, fun L m H => h3 Γ L m H rfl⟩
          show gvF tab.length (cs.map (·.2)) g = _
          unfold gvF
          rw [List.getElem?_map, ht]
          rfl
      · obtain ⟨e1, e2⟩ := shift_get e
        obtain ⟨_, t, ht, hw, rfl⟩ := fnsOf_get e2
        rw [Nat.sub_zero] at ht
        have hl := (List.getElem?_eq_some_iff.mp ht).1
        have dk := (adr_ok _ t ht).wh
        rw [hw] at dk
        refine ⟨.fn (g - cs.length), .ref (adr (g - cs.length)), .ref (adr (g - cs.length)), ?_, PySem.W.mg_of X G0 dk, rfl, fun L m H => rfl⟩
        show gvF tab.length (cs.map (·.2)) g = _
        unfold gvF
        rw [List.getElem?_eq_none (by rw [List.length_map]; exact e1), List.length_map, decide_eq_true (by omega)]
    · obtain ⟨t, ht, hk, rfl⟩ := lowD e
      obtain ⟨N', ps, S'⟩ := hDS f t ht
      rw [hk] at S'
      obtain ⟨fd', F'⟩ := (adr_ok f t ht).fn
      exact ⟨t.x, t.q, t.st, fd', N', ps, F', S'.sc, F'.binds S'.bd, S'.ck.1, S'.ck.2.1, S'.ck.2.2⟩
    · have e : metF tab kds f = some M := e
      unfold metF at e
      split at e
      · rename_i t ht
        split at e
        · rename_i M' hk
          cases e
          obtain ⟨N', ps, S'⟩ := hDS f t ht
          rw [hk] at S'
          obtain ⟨fd', F'⟩ := (adr_ok f t ht).fn
          obtain ⟨hq, a, rfl, hc⟩ := S'.ck
          rw [hq] at F'
          have bd := S'.bd
          rw [hq] at bd
          exact ⟨⟨t.x, a, t.st, fd', N', F', S'.sc, F'.binds bd, hc⟩, F'.kp⟩
        · cases e
      · cases e
    · obtain ⟨_, t, ht, hw, rfl⟩ := fnsOf_get (show (fnsOf 0 tab).lookup x = some f from e)
      rw [Nat.sub_zero] at ht
      have dk := (adr_ok f t ht).wh
      rw [hw] at dk
      exact PySem.W.mg_of X G0 dk
  have T2 : ∀ f d', mkFh tab kds f = some d' → DefOk2 Γ (mkDx tab cs kr ats er) d' (Γ.fa f) := fun f d' e => by
    obtain ⟨t, lm, ht, hk, rfl⟩ := highD e
    obtain ⟨N', ps, S'⟩ := hDS f t ht
    rw [hk] at S'
    have dk := adr_ok f t ht
    obtain ⟨fd', F'⟩ := dk.fn
    refine ⟨t.x, t.q, t.st, fd', N', ps, lm, F', S'.sc, F'.binds S'.bd, S'.ck.1, S'.ck.2.1, S'.ck.2.2, fun hl => ?_⟩
    subst hl
    obtain ⟨h1, h2, h3⟩ := hT f t ht hk
    obtain ⟨c, Pt, h4⟩ := hI _ h3
    have dw := dk.wh
    rw [h1] at dw
    refine ⟨c, Pt, code_of dw F' h4, TB (c, Pt) ((hcs _).mpr ⟨_, h3, h4⟩), ?_, fun p hp e => ?_⟩
    · show (Pt, _) ∈ tabsOf K ls
      exact tabsOf_mem.mpr ⟨t.x, h3, c, h4, by rw [h2]; rfl⟩
    · obtain ⟨y, hy, c', e1, e2⟩ := tabsOf_mem.mp (show p ∈ tabsOf K ls from hp)
      rw [e] at e1
      rw [e2, h2, hU _ _ _ _ _ h3 hy h4 e1]
      rfl
  obtain ⟨hkp, fd, ps, F, hb⟩ := fnI2 (Γ := Γ) T rfl N2 T2 n lf
  rw [efa]
  refine ⟨fd, ps, ⟨fun vs H Q E z => ?_, fun A outer s H args us vs Q E hg hr e0 hb' r z => ?_⟩, hb⟩
  all_goals
    have ask : spC Γ (run2 (mkGx tab kds (cs.map (·.2)) kr ats er) (run (mkGx tab kds (cs.map (·.2)) kr ats er) (mkFl tab kds) N2) (mkFh tab kds) n) lf vs H Q E := by
      obtain ⟨a, ns, rfl, hl, hTb, ho, hs, q⟩ := z
      obtain ⟨h', e⟩ := hlaw ns hl
      refine ⟨[], [], [], [.scr (ns.map .int)], ⟨rfl, .nil, fun _ z => (by cases z), fun i a o e => (by simp at e), fun _ z => (by cases z), fun p hp => ?_⟩, ⟨⟨a, ns.map V.int, rfl, ?_, ints_map⟩, trivial⟩, ?_⟩
      · obtain ⟨x, hx, c, h1, h2⟩ := tabsOf_mem.mp (show p ∈ tabsOf K ls from hp)
        exact TabS.nil (hTb (c, p.1) ((hcs _).mpr ⟨x, hx, h1⟩))
      · rcases hs with (hs | ⟨o, hs⟩) | hs
        · rcases ho a with z | ⟨o, z⟩ | ⟨o, xs, z⟩
          · rw [hs] at z; cases z
          · rw [hs] at z; cases z
          · rw [hs] at z; cases z
        · exact .inl ⟨o, hs⟩
        · obtain ⟨o, its, n, h1, h2, h3, h4, h5, h6⟩ := hs
          exact .inr ⟨o, its, n, h1, h2, h3, h4, h5, h6⟩
      · rw [e]
        intro m' H' u _ _ r
        cases (show u = .bl true from r)
        exact q H'
  · exact F.len _ _ _ _ ask
  · exact F.run A outer s H args us vs Q E hg hr e0 hb' r ask
end Mi
set_option Elab.async false
set_option linter.all false
set_option maxRecDepth 100000
set_option maxHeartbeats 4000000
namespace Mi
open PySem PySem.Spec PyProof.Rows L2 LamX
theorem tab_mk {K : PySem.W.Frag} {x : Str} {f c P : Addr} {fc : Value} {fdi cdi : Option Addr} {fs cS : Array (Option Value)} {fd : FuncData} {cc : Value} {vs : Array Value} (h1 : PySem.W.nsIn K mainGlobals x = some (some (.ref f))) (h2 : K.lookup f = some ⟨fc, fdi, .func fd, fs⟩)
    (h3 : fd.code = .ref c) (h4 : K.lookup c = some ⟨cc, cdi, .fields vs, cS⟩) (h5 : (vs[11]? : Option Value) = some (.ref P)) : PySem.W.tabIn K x = some (c, P) := by
  unfold PySem.W.tabIn
  rw [h1]
  dsimp only
  rw [h2]
  dsimp only
  rw [h3]
  dsimp only
  rw [h4]
  dsimp only
  rw [h5]
def AllTw (q : Program) (K : PySem.W.Frag) : List (Str × Addr × Addr) → Prop
  | [] => True
  | (x, c, P) :: r => (PySem.W.tabIn K x = some (c, P) ∧ K.lookup P = none ∧ ((recsOf q).find? fun e => e.name == x).isSome = true) ∧ AllTw q K r
theorem AllTw.mem {q : Program} {K : PySem.W.Frag} {x : Str} : ∀ {l : List (Str × Addr × Addr)}, AllTw q K l → x ∈ l.map (·.1) → ∃ p ∈ l, p.1 = x ∧ PySem.W.tabIn K x = some p.2 ∧ K.lookup p.2.2 = none ∧ ((recsOf q).find? fun e => e.name == x).isSome = true
  | [], _, h => by simp at h
  | (y, c, P) :: r, h, e => by
    rw [List.map_cons, List.mem_cons] at e
    rcases e with rfl | e
    · exact ⟨_, List.mem_cons_self, rfl, h.1⟩
    · obtain ⟨p, h1, h2⟩ := AllTw.mem h.2 e
      exact ⟨p, List.mem_cons_of_mem _ h1, h2⟩
theorem tw_tb {q : Program} {K : PySem.W.Frag} {l : List (Str × Addr × Addr)} (h : AllTw q K l) : ∀ x, x ∈ l.map (·.1) → ∃ c P d, PySem.W.tabIn K x = some (c, P) ∧ (recsOf q).find? (fun e => e.name == x) = some d ∧ K.lookup P = none := fun x hx => by
  obtain ⟨p, _, _, h2, h3, h4⟩ := h.mem hx
  obtain ⟨d, hd⟩ := Option.isSome_iff_exists.mp h4
  exact ⟨p.2.1, p.2.2, d, h2, hd, h3⟩
theorem tw_in {q : Program} {K : PySem.W.Frag} {l : List (Str × Addr × Addr)} (h : AllTw q K l) : ∀ x ∈ l.map (·.1), ∃ c P, PySem.W.tabIn K x = some (c, P) := fun x hx => by
  obtain ⟨p, _, _, h2, _⟩ := h.mem hx
  exact ⟨p.2.1, p.2.2, h2⟩
def apart : List (Str × Addr × Addr) → Bool
  | [] => true
  | p :: r => r.all (fun q => decide (q.2.2 ≠ p.2.2)) && apart r
theorem apart_eq : ∀ {l : List (Str × Addr × Addr)} {p q : Str × Addr × Addr}, apart l = true → p ∈ l → q ∈ l → p.2.2 = q.2.2 → p = q
  | [], _, _, _, h, _, _ => by cases h
  | y :: r, p, q, h, hp, hq, e => by
    unfold apart at h
    rw [Bool.and_eq_true, List.all_eq_true] at h
    rcases List.mem_cons.mp hp with rfl | hp'
    · rcases List.mem_cons.mp hq with rfl | hq'
      · rfl
      · exact absurd e.symm (of_decide_eq_true (h.1 q hq'))
    · rcases List.mem_cons.mp hq with rfl | hq'
      · exact absurd e (of_decide_eq_true (h.1 p hp'))
      · exact apart_eq h.2 hp' hq' e
theorem tw_un {q : Program} {K : PySem.W.Frag} {l : List (Str × Addr × Addr)} (h : AllTw q K l) (ha : apart l = true) : ∀ x y c d P, x ∈ l.map (·.1) → y ∈ l.map (·.1) → PySem.W.tabIn K x = some (c, P) → PySem.W.tabIn K y = some (d, P) → x = y := fun x y c d P hx hy e1 e2 => by
  obtain ⟨p, m1, rfl, h2, _⟩ := h.mem hx
  obtain ⟨r, m2, rfl, h3, _⟩ := h.mem hy
  rw [h2] at e1
  rw [h3] at e2
  have a := congrArg Prod.snd (Option.some.inj e1)
  have b := congrArg Prod.snd (Option.some.inj e2)
  rw [apart_eq ha m1 m2 (a.trans b.symm)]
def lmOk (ls : List Str) : List TC → List Kn → Bool
  | t :: r, k :: l => (match k with
    | .high true => decide (t.wh = .mod) && decide (t.q = t.x) && ls.contains t.x
    | _ => true) && lmOk ls r l
  | _, _ => true
theorem lm_ok {ls : List Str} : ∀ {tab : List TC} {kds : List Kn}, lmOk ls tab kds = true → ∀ (f : Nat) (t : TC), tab[f]? = some t → kdAt kds f = .high true → t.wh = .mod ∧ t.q = t.x ∧ t.x ∈ ls
  | [], _, _, _, _, e, _ => by simp at e
  | _ :: _, [], _, f, t, e, hk => by
    have hk : ([] : List Kn).getD f .low = .high true := hk
    simp at hk
  | y :: r, k :: l, h, 0, t, e, hk => by
    simp at e
    subst e
    have hk : k = .high true := hk
    subst hk
    unfold lmOk at h
    simp only [Bool.and_eq_true] at h
    exact ⟨of_decide_eq_true h.1.1.1, of_decide_eq_true h.1.1.2, by simpa using h.1.2⟩
  | y :: r, k :: l, h, i + 1, t, e, hk => by
    unfold lmOk at h
    simp only [Bool.and_eq_true] at h
    exact lm_ok h.2 i t (by simpa using e) hk
theorem sup_mk {prog : Program} {K : PySem.W.Frag} {C fI cda cc : Addr} {B newId initId : String} {bmB : List Value} {sf ga f qual : Str} {params : Arguments} {body : List Stmt} {scope : Scope} {kV doc pm ct oc ccl cl : Value} {an od cdd cld : Option Addr} {osl ccs csl : Array (Option Value)} {vs : Array Value} {file : Str} {tf : Tok} {cdC : ClassData}
    (eb : EB B newId initId bmB) (q : PySem.W.excInitIn K C bmB newId = true) (ov : PySem.W.excOver K C bmB = true) (hi : PySem.W.findIn K (.ref C) "__init__" = some (some (.ref fI))) (ti : PySem.W.typeIn K (.ref fI) = some (.type "function")) (l1 : K.lookup fI = some ⟨oc, od, .func (PySem.W.ksFn "__init__" qual params body scope .none kV doc pm an (.ref cda) ct cc), osl⟩)
    (l2 : PySem.W.codeIn K (.ref cda) qual = true) (l3 : K.lookup cda = some ⟨ccl, cdd, .fields vs, ccs⟩) (v2 : vs[2]? = some (.str file tf)) (fl : ((prog.main.file : Str) == file) = true) (l4 : K.lookup cc = some ⟨cl, cld, .cell (some (.ref C)), csl⟩) (l5 : PySem.W.clsIn K C = some cdC) (tx : SupTxt params body scope sf ga f)
    (su : PySem.W.ks_superIn K C C "__init__" = some (some (.builtin initId))) (sB : PySem.W.subIn K (.ref C) (.type B) = some true) (sC : PySem.W.mroIn K C (.ref C) = some true) (op : PySem.W.nsIn K cStatics "thirdparty.any" = some none) (tp : (prog.main.scope.names.lookup ("super" : Str)).isSome = false)
    (sa : PySem.W.findIn K (.ref C) "__setattr__" = some (some (.builtin "object.__setattr__"))) (tk : PySem.W.takerIn K C f = some none) (hh : PySem.W.hasDictIn K C = true) (bE : PySem.W.subIn K (.ref C) (.type "BaseException") = some true) (tC : PySem.W.typeIn K (.ref C) = some (.type "type")) (kC : PySem.W.keepIn K (.ref C) = true) :
    ∃ fI B newId initId bmB sf ga, SupK prog K C fI B newId initId bmB sf ga f := ⟨fI, B, newId, initId, bmB, sf, ga, eb, q, ov, hi, ti, ⟨qual, params, body, scope, kV, doc, pm, an, cda, ct, cc, oc, od, osl, ccl, cdd, vs, ccs, file, tf, cl, cld, csl, cdC, l1, l2, l3, v2, fl, l4, l5, tx⟩, su, sB, sC, op, tp, sa, tk, hh, bE, tC, kC⟩
theorem ow_nil {K : PySem.W.Frag} : AllOw K [] := fun c _ _ _ h _ => by simp at h
theorem ow_one {K : PySem.W.Frag} {C : Addr} : AllOw K [C] := fun c d A E h1 h2 => match c, d, h1, h2 with
  | 0, 0, h1, h2 => by
    cases Option.some.inj h1
    cases Option.some.inj h2
    exact kit_self
  | c + 1, _, h1, _ => by simp at h1
  | 0, d + 1, _, h2 => by simp at h2
def owRow (K : PySem.W.Frag) (c : Nat) (C : Addr) (n : Nat) : List Addr → Prop
  | [] => True
  | E :: r => PySem.W.kitOne K (.ref E) (.ref C) = some (n == c) ∧ owRow K c C (n + 1) r
def owAll (K : PySem.W.Frag) (xas : List Addr) (n : Nat) : List Addr → Prop
  | [] => True
  | C :: r => owRow K n C 0 xas ∧ owAll K xas (n + 1) r
theorem owRow.get {K : PySem.W.Frag} {c : Nat} {C E : Addr} : ∀ {l : List Addr} {n d : Nat}, owRow K c C n l → l[d]? = some E → PySem.W.kitOne K (.ref E) (.ref C) = some ((n + d) == c)
  | [], _, _, _, e => by simp at e
  | y :: r, n, 0, h, e => by
    simp at e
    subst e
    exact h.1
  | y :: r, n, d + 1, h, e => by
    have z := owRow.get (l := r) (n := n + 1) (d := d) h.2 (by simpa using e)
    rw [show n + (d + 1) = n + 1 + d by omega]
    exact z
theorem owAll.get {K : PySem.W.Frag} {xas : List Addr} {C : Addr} : ∀ {l : List Addr} {n c : Nat}, owAll K xas n l → l[c]? = some C → owRow K (n + c) C 0 xas
  | [], _, _, _, e => by simp at e
  | y :: r, n, 0, h, e => by
    simp at e
    subst e
    exact h.1
  | y :: r, n, d + 1, h, e => by
    have z := owAll.get (l := r) (n := n + 1) (c := d) h.2 (by simpa using e)
    rw [show n + (d + 1) = n + 1 + d by omega]
    exact z
theorem ow_all {K : PySem.W.Frag} {cas : List Addr} (h : owAll K cas 0 cas) : AllOw K cas := fun c d C E e1 e2 => by
  have z := (h.get e1).get e2
  rw [Nat.zero_add, Nat.zero_add] at z
  exact z
end Mi
set_option Elab.async false
set_option linter.all false
set_option maxRecDepth 100000
set_option maxHeartbeats 4000000
namespace Law
open PySem PySem.Spec PyProof.Rows L2 Mi
def topS (i : Nat) : Stmt := PySem.Challenge.pw_ownchecks_k12_errors_of_counts.main.body.getD i (.Pass ⟨0, 0, 0, 0⟩)
def f0 : FD := { ar := 1, sl := 1, frz := true, body := (.ret (.and (.bif .isint (.acons (.var 0) .anil)) (.not (.bif .isbool (.acons (.var 0) .anil))))) }
def f1 : FD := { ar := 3, sl := 3, frz := true, body := (.ret (.and (.call 0 (.acons (.var 0) .anil)) (.chain .le .le (.var 1) (.var 0) (.var 2)))) }
def f2 : FD := { ar := 2, sl := 2, frz := true, body := (.ret (.and (.call 0 (.acons (.var 1) .anil)) (.chain .le .lt (.int 0) (.var 1) (.bin .shl (.int 1) (.var 0))))) }
def f3 : FD := { ar := 2, sl := 3, frz := true, body := (.ret (.and (.bif .istuple (.acons (.var 1) .anil)) (.and (.cmp .le (.bif .len (.acons (.var 1) .anil)) (.gl 1)) (.bif .all (.acons (.fz (.comp [2] (.n 2) (.over (.var 1)) .noe (.call 2 (.acons (.var 0) (.acons (.var 2) .anil))))) .anil))))) }
def f4 : FD := { ar := 1, sl := 3, frz := true, body := (.seq (.set 1 (.bin .sub (.var 0) (.bin .and (.bin .shr (.var 0) (.int 1)) (.int 5592405)))) (.seq (.set 2 (.bin .add (.bin .and (.var 1) (.int 3355443)) (.bin .and (.bin .shr (.var 1) (.int 2)) (.int 3355443)))) (.ret (.bin .mod (.bin .and (.bin .add (.var 2) (.bin .shr (.var 2) (.int 4))) (.int 986895)) (.int 255))))) }
def f5 : FD := { ar := 2, sl := 2, frz := true, body := (.ret (.bin .mod (.call 4 (.acons (.bin .and (.var 0) (.var 1)) .anil)) (.gl 2))) }
def f6 : FD := { ar := 1, sl := 1, frz := true, body := (.ret (.bin .sub (.mth .bitlen (.var 0) .anil) (.int 1))) }
def f7 : FD := { ar := 2, sl := 2, frz := true, body := (.ret (.cmp .eq (.bin .and (.bin .shr (.var 0) (.var 1)) (.int 1)) (.int 1))) }
def f8 : FD := { ar := 1, sl := 2, frz := true, body := (.ret (.bif .sum (.acons (.fz (.comp [1] (.n 1) (.over (.var 0)) .noe (.bin .shl (.int 1) (.var 1)))) .anil))) }
def f9 : FD := { ar := 2, sl := 3, frz := true, body := (.seq (.fors (.n 2) (.over (.var 0)) (.ifs (.call 7 (.acons (.var 1) (.acons (.call 6 (.acons (.var 2) .anil)) .anil))) (.aug 1 .xor (.var 2)) .skip)) (.ret (.var 1))) }
def f10 : FD := { ar := 2, sl := 5, frz := true, body := (.seq (.set 2 (.call 9 (.acons (.var 0) (.acons (.var 1) .anil)))) (.seq (.ifs (.cmp .eq (.var 2) (.int 0)) (.ret (.var 0)) .skip) (.seq (.set 3 (.call 6 (.acons (.var 2) .anil))) (.ret (.bif .tuple (.acons (.fz (.srt true (.fz (.cat (.fz (.comp [4] (.n 4) (.over (.var 0)) .noe (.ite (.call 7 (.acons (.var 4) (.acons (.var 3) .anil))) (.bin .xor (.var 4) (.var 2)) (.var 4)))) (.fz (.disp (.acons (.var 2) .anil))))))) .anil)))))) }
def f11 : FD := { ar := 1, sl := 3, frz := true, body := (.seq (.set 1 (.tup .anil)) (.seq (.fors (.n 2) (.over (.var 0)) (.set 1 (.call 10 (.acons (.var 1) (.acons (.var 2) .anil))))) (.ret (.var 1)))) }
def f12 : FD := { ar := 1, sl := 2, frz := true, body := (.ret (.fz (.comp [1] (.n 1) (.over (.var 0)) .noe (.call 6 (.acons (.var 1) .anil))))) }
def f13 : FD := { ar := 2, sl := 4, frz := true, body := (.seq (.set 2 (.call 12 (.acons (.var 1) .anil))) (.ret (.fz (.comp [3] (.n 3) (.range (.acons (.var 0) .anil)) (.sm (.cmp .notin (.var 3) (.var 2))) (.var 3))))) }
def f14 : FD := { ar := 1, sl := 4, frz := true, body := (.seq (.set 1 (.th (.disp (.acons (.int 0) .anil)))) (.seq (.fors (.n 2) (.over (.rev (.var 0))) (.ex (.mth .extend (.var 1) (.acons (.fz (.comp [3] (.n 3) (.over (.fz (.listof (.var 1)))) .noe (.bin .xor (.var 3) (.var 2)))) .anil)))) (.ret (.var 1)))) }
def f15 : FD := { ar := 2, sl := 5, frz := true, body := (.seq (.set 2 (.th (.disp .anil))) (.seq (.fors (.n 3) (.over (.call 13 (.acons (.var 0) (.acons (.var 1) .anil)))) (.ex (.mth .append (.var 2) (.acons (.call 8 (.acons (.fz (.disp (.acons (.var 3) (.astar (.fz (.comp [4] (.n 4) (.over (.var 1)) (.sm (.call 7 (.acons (.var 4) (.acons (.var 3) .anil)))) (.call 6 (.acons (.var 4) .anil)))) .anil)))) .anil)) .anil)))) (.ret (.call 11 (.acons (.var 2) .anil))))) }
def f16 : FD := { ar := 1, sl := 1, frz := true, body := (.ifs (.not (.call 1 (.acons (.var 0) (.acons (.int 1) (.acons (.gl 0) .anil))))) (.raise 0 (.acons (.var 0) .anil)) .skip) }
def f17 : FD := { ar := 2, sl := 2, frz := true, body := (.ifs (.not (.call 2 (.acons (.var 0) (.acons (.var 1) .anil)))) (.raise 1 (.acons (.str [97, 32, 119, 111, 114, 100, 32, 111, 102, 32, 116, 104, 101, 32, 108, 101, 110, 103, 116, 104, 32, 105, 115, 32, 101, 120, 112, 101, 99, 116, 101, 100]) .anil)) .skip) }
def f18 : FD := { ar := 2, sl := 2, frz := true, body := (.ifs (.not (.call 3 (.acons (.var 0) (.acons (.var 1) .anil)))) (.raise 1 (.acons (.str [97, 32, 116, 117, 112, 108, 101, 32, 111, 102, 32, 97, 116, 32, 109, 111, 115, 116, 32, 54, 52, 32, 119, 111, 114, 100, 115, 32, 111, 102, 32, 116, 104, 101, 32, 108, 101, 110, 103, 116, 104, 32, 105, 115, 32, 101, 120, 112, 101, 99, 116, 101, 100]) .anil)) .skip) }
def f19 : FD := { ar := 1, sl := 1, frz := true, body := (.ifs (.not (.isown 0 (.var 0))) (.raise 2 (.acons (.str [97, 32, 99, 111, 100, 101, 32, 105, 115, 32, 101, 120, 112, 101, 99, 116, 101, 100]) .anil)) .skip) }
def f20 : FD := { ar := 2, sl := 4, frz := true, body := (.seq (.ifs (.not (.chain .le .le (.int 0) (.var 1) (.var 0))) (.ret (.int 0)) .skip) (.seq (.set 2 (.int 1)) (.seq (.fors (.n 3) (.range (.acons (.var 1) .anil)) (.set 2 (.bin .fdiv (.bin .mul (.var 2) (.bin .sub (.var 0) (.var 3))) (.bin .add (.var 3) (.int 1))))) (.ret (.var 2))))) }
def f21 : FD := { ar := 3, sl := 6, frz := true, body := (.seq (.par [4, 5] (.acons (.int 0) (.acons (.int 1) .anil))) (.seq (.fors (.n 3) (.range (.acons (.bin .add (.bif .min2 (.acons (.var 1) (.acons (.var 2) .anil))) (.int 1)) .anil)) (.seq (.aug 4 .add (.bin .mul (.bin .mul (.var 5) (.call 20 (.acons (.var 2) (.acons (.var 3) .anil)))) (.call 20 (.acons (.bin .sub (.var 0) (.var 2)) (.acons (.bin .sub (.var 1) (.var 3)) .anil))))) (.set 5 (.neg (.var 5))))) (.ret (.var 4)))) }
def f22 : FD := { ar := 1, sl := 6, frz := true, body := (.seq (.set 1 (.bin .sub (.bif .len (.acons (.var 0) .anil)) (.int 1))) (.seq (.set 2 (.th (.disp .anil))) (.seq (.fors (.n 3) (.range (.acons (.bin .add (.var 1) (.int 1)) .anil)) (.ex (.mth .append (.var 2) (.acons (.bif .sum (.acons (.fz (.comp [4, 5] (.t [4, 5]) (.enum (.var 0)) .noe (.bin .mul (.var 5) (.call 21 (.acons (.var 1) (.acons (.var 3) (.acons (.var 4) .anil))))))) .anil)) .anil)))) (.ret (.bif .tuple (.acons (.var 2) .anil)))))) }
def f23 : FD := { ar := 2, sl := 5, frz := true, body := (.seq (.set 2 (.th (.rep (.fz (.disp (.acons (.int 0) .anil))) (.bin .add (.var 0) (.int 1))))) (.seq (.fors (.t [3, 4]) (.over (.var 1)) (.augs (.var 2) (.call 4 (.acons (.var 3) .anil)) .add (.var 4))) (.ret (.bif .tuple (.acons (.var 2) .anil))))) }
def f24 : FD := { ar := 2, sl := 3, frz := true, body := (.ret (.bif .tuple (.acons (.fz (.comp [2] (.n 2) (.over (.var 0)) .noe (.bin .fdiv (.var 2) (.var 1)))) .anil))) }
def f25 : FD := { ar := 2, sl := 4, frz := true, body := (.seq (.ifs (.cmp .le (.bin .mul (.gl 6) (.bif .len (.acons (.var 1) .anil))) (.var 0)) (.ret (.call 23 (.acons (.var 0) (.acons (.fz (.comp [3] (.n 3) (.over (.call 14 (.acons (.var 1) .anil))) .noe (.tup (.acons (.var 3) (.acons (.int 1) .anil))))) .anil)))) .skip) (.seq (.set 2 (.call 15 (.acons (.var 0) (.acons (.var 1) .anil)))) (.ret (.call 24 (.acons (.call 22 (.acons (.call 25 (.acons (.var 0) (.acons (.var 2) .anil))) .anil)) (.acons (.bin .shl (.int 1) (.bif .len (.acons (.var 2) .anil))) .anil)))))) }
def f26 : FD := { ar := 3, sl := 6, frz := true, body := (.seq (.ifs (.cmp .le (.bin .mul (.gl 6) (.bif .len (.acons (.var 1) .anil))) (.var 0)) (.ret (.call 23 (.acons (.var 0) (.acons (.fz (.comp [5] (.n 5) (.over (.call 14 (.acons (.var 1) .anil))) .noe (.tup (.acons (.bin .xor (.var 5) (.var 2)) (.acons (.int 1) .anil))))) .anil)))) .skip) (.seq (.set 3 (.call 15 (.acons (.var 0) (.acons (.var 1) .anil)))) (.seq (.set 4 (.call 23 (.acons (.var 0) (.acons (.fz (.comp [5] (.n 5) (.over (.call 14 (.acons (.var 3) .anil))) .noe (.tup (.acons (.var 5) (.acons (.bin .sub (.int 1) (.bin .mul (.gl 6) (.call 5 (.acons (.var 5) (.acons (.var 2) .anil))))) .anil))))) .anil)))) (.ret (.call 24 (.acons (.call 22 (.acons (.var 4) .anil)) (.acons (.bin .shl (.int 1) (.bif .len (.acons (.var 3) .anil))) .anil))))))) }
def f27 : FD := { ar := 2, sl := 3, frz := true, body := (.ret (.fz (.comp [2] (.n 2) (.over (.call 14 (.acons (.var 0) .anil))) (.sm (.cmp .eq (.call 4 (.acons (.var 2) .anil)) (.var 1))) (.var 2)))) }
def f28 : FD := { ar := 1, sl := 4, frz := true, body := (.seq (.set 1 (.fz (.comp [2, 3] (.t [2, 3]) (.enum (.var 0)) (.sm (.and (.cmp .gt (.var 2) (.int 0)) (.cmp .ne (.var 3) (.int 0)))) (.var 2)))) (.ret (.ite (.cmp .ne (.var 1) (.fz (.disp .anil))) (.sub (.var 1) (.int 0)) .non))) }
def f29 : FD := { ar := 1, sl := 1, frz := true, body := (.ret (.and (.cmp .gt (.var 0) (.int 0)) (.cmp .eq (.bin .and (.var 0) (.bin .sub (.var 0) (.int 1))) (.int 0)))) }
def f30 : FD := { ar := 1, sl := 5, frz := true, body := (.seq (.set 1 (.bif .sum (.acons (.var 0) .anil))) (.seq (.ifs (.not (.call 29 (.acons (.var 1) .anil))) (.ret (.tup (.acons (.gl 8) .anil))) .skip) (.seq (.set 2 (.call 22 (.acons (.var 0) .anil))) (.seq (.fors (.t [3, 4]) (.enum (.var 2)) (.seq (.ifs (.cmp .ne (.bin .mod (.var 4) (.var 1)) (.int 0)) (.ret (.tup (.acons (.gl 9) (.acons (.var 3) .anil)))) .skip) (.ifs (.cmp .lt (.var 4) (.int 0)) (.ret (.tup (.acons (.gl 10) (.acons (.var 3) .anil)))) .skip))) (.ret (.tup (.acons (.gl 7) (.acons (.call 24 (.acons (.var 2) (.acons (.var 1) .anil))) .anil)))))))) }
def f31 : FD := { ar := 1, sl := 2, frz := true, body := (.seq (.ifs (.or (.not (.bif .istuple (.acons (.var 0) .anil))) (.not (.chain .le .le (.gl 6) (.bif .len (.acons (.var 0) .anil)) (.bin .add (.gl 4) (.int 1))))) (.ret (.bl false)) .skip) (.ret (.bif .all (.acons (.fz (.comp [1] (.n 1) (.over (.var 0)) .noe (.and (.call 0 (.acons (.var 1) .anil)) (.chain .lt .lt (.neg (.gl 5)) (.var 1) (.gl 5))))) .anil)))) }
def f32 : FD := { ar := 1, sl := 1, frz := true, body := (.ifs (.not (.call 31 (.acons (.var 0) .anil))) (.raise 3 (.acons (.str [97, 32, 116, 117, 112, 108, 101, 32, 111, 102, 32, 50, 32, 116, 111, 32, 50, 53, 32, 105, 110, 116, 101, 103, 101, 114, 115, 32, 105, 115, 32, 101, 120, 112, 101, 99, 116, 101, 100]) .anil)) .skip) }
def f33 : FD := { ar := 2, sl := 2, frz := true, body := (.ifs (.not (.call 1 (.acons (.var 1) (.acons (.int 0) (.acons (.var 0) .anil))))) (.raise 0 (.acons (.var 1) .anil)) .skip) }
def f34 : FD := { ar := 3, sl := 3, frz := true, body := (.seq (.ex (.call 16 (.acons (.var 0) .anil))) (.seq (.ex (.call 33 (.acons (.var 0) (.acons (.var 1) .anil)))) (.seq (.ex (.call 33 (.acons (.var 0) (.acons (.var 2) .anil)))) (.ret (.call 21 (.acons (.var 0) (.acons (.var 1) (.acons (.var 2) .anil)))))))) }
def f35 : FD := { ar := 1, sl := 1, frz := true, body := (.seq (.ex (.call 19 (.acons (.var 0) .anil))) (.ret (.call 25 (.acons (.attr (.var 0) 2) (.acons (.attr (.var 0) 3) .anil))))) }
def f36 : FD := { ar := 1, sl := 1, frz := true, body := (.seq (.ex (.call 19 (.acons (.var 0) .anil))) (.ret (.call 25 (.acons (.attr (.var 0) 2) (.acons (.call 15 (.acons (.attr (.var 0) 2) (.acons (.attr (.var 0) 3) .anil))) .anil))))) }
def f37 : FD := { ar := 2, sl := 2, frz := true, body := (.seq (.ex (.call 19 (.acons (.var 0) .anil))) (.seq (.ex (.call 17 (.acons (.attr (.var 0) 2) (.acons (.var 1) .anil)))) (.ret (.call 26 (.acons (.attr (.var 0) 2) (.acons (.attr (.var 0) 3) (.acons (.var 1) .anil))))))) }
def f38 : FD := { ar := 1, sl := 1, frz := true, body := (.seq (.ex (.call 32 (.acons (.var 0) .anil))) (.ret (.call 22 (.acons (.var 0) .anil)))) }
def f39 : FD := { ar := 1, sl := 1, frz := true, body := (.ret (.call 28 (.acons (.call 35 (.acons (.var 0) .anil)) .anil))) }
def f40 : FD := { ar := 2, sl := 2, frz := true, body := (.seq (.ex (.call 19 (.acons (.var 0) .anil))) (.seq (.ex (.call 33 (.acons (.attr (.var 0) 2) (.acons (.var 1) .anil)))) (.seq (.ifs (.cmp .gt (.bin .shl (.int 1) (.bif .len (.acons (.attr (.var 0) 3) .anil))) (.gl 3)) (.raise 4 (.acons (.gl 3) .anil)) .skip) (.ret (.bif .tuple (.acons (.call 27 (.acons (.attr (.var 0) 3) (.acons (.var 1) .anil))) .anil)))))) }
def f41 : FD := { ar := 2, sl := 5, frz := true, body := (.seq (.ex (.call 32 (.acons (.var 0) .anil))) (.seq (.set 2 (.bin .sub (.bif .len (.acons (.var 0) .anil)) (.int 1))) (.seq (.ex (.call 33 (.acons (.var 2) (.acons (.var 1) .anil)))) (.ret (.bif .sum (.acons (.fz (.comp [3, 4] (.t [3, 4]) (.enum (.var 0)) .noe (.bin .mul (.call 20 (.acons (.bin .sub (.var 2) (.var 3)) (.acons (.var 1) .anil))) (.var 4)))) .anil)))))) }
def f42 : FD := { ar := 1, sl := 1, frz := true, body := (.seq (.ex (.call 32 (.acons (.var 0) .anil))) (.ret (.call 30 (.acons (.var 0) .anil)))) }
def f43 : FD := { ar := 2, sl := 4, frz := false, body := (.seq (.set 2 (.ite (.cmp .lt (.var 1) (.bif .len (.acons (.var 0) .anil))) (.bif .int (.acons (.sub (.var 0) (.var 1)) .anil)) (.bin .add (.bin .mul (.int 181) (.var 1)) (.int 67)))) (.seq (.set 3 (.bin .mod (.bif .int (.acons (.bif .abs (.acons (.var 2) .anil)) .anil)) (.bin .pow (.bin .pow (.int 10) (.int 55)) (.int 6)))) (.ret (.th (.disp (.acons (.bif .max2 (.acons (.int 0) (.acons (.bin .sub (.var 3) (.bin .pow (.int 10) (.int 16))) .anil))) (.acons (.bin .add (.bin .add (.bin .add (.bin .mul (.bin .mod (.bif .int (.acons (.var 3) .anil)) (.int 2305843009213693693)) (.int 97)) (.bin .mul (.int 613) (.var 1))) (.bin .mul (.int 59) (.bif .int (.acons (.cmp .lt (.var 2) (.int 0)) .anil)))) (.int 19)) (.acons (.int 0) .anil)))))))) }
def f44 : FD := { ar := 2, sl := 5, frz := true, body := (.seq (.ifs (.cmp .gt (.sub (.var 0) (.int 0)) (.int 0)) (.seq (.set 4 (.bin .mod (.bif .int (.acons (.sub (.var 0) (.int 0)) .anil)) (.var 1))) (.seq (.sets (.var 0) (.int 0) (.bin .fdiv (.sub (.var 0) (.int 0)) (.var 1))) (.ret (.var 4)))) .skip) (.seq (.sets (.var 0) (.int 2) (.bin .add (.sub (.var 0) (.int 2)) (.int 1))) (.seq (.set 2 (.bin .mod (.bif .int (.acons (.bin .add (.sub (.var 0) (.int 1)) (.bin .mul (.int 86028157) (.sub (.var 0) (.int 2)))) .anil)) (.int 2305843009213693951))) (.seq (.set 3 (.bin .add (.bin .mul (.bin .mod (.bif .int (.acons (.bin .add (.bin .mul (.var 2) (.var 2)) (.bin .mul (.int 139) (.sub (.var 0) (.int 2)))) .anil)) (.int 2305843009213693907)) (.int 7368791)) (.var 2))) (.ret (.bin .mod (.bif .int (.acons (.bin .fdiv (.var 3) (.int 65543)) .anil)) (.var 1))))))) }
def f45 : FD := { ar := 2, sl := 2, frz := true, body := (.ret (.sub (.var 1) (.call 44 (.acons (.var 0) (.acons (.bif .len (.acons (.var 1) .anil)) .anil))))) }
def met46 : Mt := { hs := [(2, (.t2 (.s [114, 97, 105, 115, 101, 100]) (.s [99, 111, 100, 101]))), (1, (.t2 (.s [114, 97, 105, 115, 101, 100]) (.s [119, 111, 114, 100]))), (3, (.t2 (.s [114, 97, 105, 115, 101, 100]) (.s [99, 111, 117, 110, 116, 115]))), (0, (.t2 (.s [114, 97, 105, 115, 101, 100]) (.r [110, 117, 109, 98, 101, 114, 32]))), (4, (.t2 (.s [114, 97, 105, 115, 101, 100]) (.r [109, 97, 110, 121, 32])))], fine := (.s [116, 111, 108, 100]) }
def f46 : FD := { ar := 1, sl := 2, frz := true, body := .skip }
def f47 : FD := { ar := 1, sl := 14, frz := true, body := (.seq (.set 1 (.mk 0 (.acons (.int 5) (.acons (.tup (.acons (.int 7) (.acons (.int 25) .anil))) .anil)))) (.seq (.set 2 (.call 45 (.acons (.var 0) (.acons (.fz (.disp (.acons .non (.acons (.int 0) (.acons (.tup (.acons (.int 5) (.acons (.tup (.acons (.int 7) .anil)) .anil))) (.acons (.str [99, 111, 100, 101]) (.acons .dz (.acons (.fz (.disp (.acons (.var 1) .anil))) (.acons (.bl true) .anil))))))))) .anil)))) (.seq (.set 3 (.call 45 (.acons (.var 0) (.acons (.fz (.disp (.acons .non (.acons (.neg (.int 1)) (.acons (.int 32) (.acons (.bl true) (.acons (.str [49]) (.acons (.tup (.acons (.int 1) .anil)) (.acons (.bin .pow (.int 10) (.int 59)) .anil))))))))) .anil)))) (.seq (.set 4 (.call 45 (.acons (.var 0) (.acons (.fz (.disp (.acons .non (.acons (.neg (.int 1)) (.acons (.int 6) (.acons (.bl false) (.acons (.str [49]) (.acons (.tup (.acons (.int 1) .anil)) (.acons (.bin .pow (.int 10) (.int 60)) .anil))))))))) .anil)))) (.seq (.set 5 (.call 45 (.acons (.var 0) (.acons (.fz (.disp (.acons .non (.acons (.int 0) (.acons (.int 25) (.acons (.neg (.int 1)) (.acons (.bl true) (.acons (.str [53]) (.acons (.tup (.acons (.int 5) .anil)) (.acons (.bin .pow (.int 10) (.int 60)) .anil)))))))))) .anil)))) (.seq (.set 6 (.fz (.disp (.acons .non (.acons (.tup .anil) (.acons (.tup (.acons (.int 1) .anil)) (.acons (.fz (.disp (.acons (.int 1) (.acons (.int 0) (.acons (.int 1) .anil))))) (.acons (.tup (.acons (.int 1) (.acons (.bl true) .anil))) (.acons (.tup (.acons (.int 1) (.acons (.str [48]) .anil))) (.acons (.bin .mul (.tup (.acons (.int 1) .anil)) (.int 26)) (.acons (.tup (.acons (.int 1) (.acons (.bin .pow (.int 10) (.int 60)) .anil))) (.acons (.int 5) (.acons .dz (.acons (.tup (.acons (.int 1) (.acons .non .anil))) .anil)))))))))))))) (.seq (.set 6 (.call 45 (.acons (.var 0) (.acons (.var 6) .anil)))) (.seq (.par [10, 9] (.acons (.th (.disp .anil)) (.acons (.fz (.disp .anil)) .anil))) (.seq (.fors (.n 7) (.over (.tup (.acons (.gl 46) (.acons (.gl 47) (.acons (.gl 50) .anil))))) (.seq (.ex (.mth .append (.var 10) (.acons (.lamc 46 (.callv 7 (.acons (.var 2) .anil))) .anil))) (.seq (.ex (.mth .append (.var 10) (.acons (.lamc 46 (.callv 7 (.acons (.var 1) .anil))) .anil))) (.set 9 (.fz (.cat (.var 9) (.fz (.disp (.acons (.str [99, 111, 100, 101]) (.acons (.str [116, 111, 108, 100]) .anil)))))))))) (.seq (.set 8 (.bin .add (.str [110, 117, 109, 98, 101, 114, 32]) (.rpr (.var 4)))) (.seq (.fors (.t [7, 11, 12]) (.over (.tup (.acons (.tup (.acons (.gl 48) (.acons (.var 3) (.acons (.str [119, 111, 114, 100]) .anil)))) (.acons (.tup (.acons (.gl 51) (.acons (.var 4) (.acons (.var 8) .anil)))) .anil)))) (.seq (.ex (.mth .append (.var 10) (.acons (.lamc 46 (.callv 7 (.acons (.var 2) (.acons (.var 11) .anil)))) .anil))) (.seq (.ex (.mth .append (.var 10) (.acons (.lamc 46 (.callv 7 (.acons (.var 1) (.acons (.var 11) .anil)))) .anil))) (.seq (.ex (.mth .append (.var 10) (.acons (.lamc 46 (.callv 7 (.acons (.var 1) (.acons (.int 5) .anil)))) .anil))) (.set 9 (.fz (.cat (.var 9) (.fz (.disp (.acons (.str [99, 111, 100, 101]) (.acons (.var 12) (.acons (.str [116, 111, 108, 100]) .anil)))))))))))) (.seq (.fors (.n 7) (.over (.tup (.acons (.gl 49) (.acons (.gl 53) .anil)))) (.seq (.ex (.mth .append (.var 10) (.acons (.lamc 46 (.callv 7 (.acons (.var 6) .anil))) .anil))) (.seq (.ex (.mth .append (.var 10) (.acons (.lamc 46 (.callv 7 (.acons (.tup (.acons (.bin .pow (.int 10) (.int 59)) (.acons (.bin .sub (.int 0) (.bin .pow (.int 10) (.int 59))) .anil))) .anil))) .anil))) (.set 9 (.fz (.cat (.var 9) (.fz (.disp (.acons (.str [99, 111, 117, 110, 116, 115]) (.acons (.str [116, 111, 108, 100]) .anil)))))))))) (.seq (.ex (.mth .append (.var 10) (.acons (.lamc 46 (.call 41 (.acons (.var 6) (.acons (.var 4) .anil)))) .anil))) (.seq (.ex (.mth .append (.var 10) (.acons (.lamc 46 (.call 41 (.acons (.tup (.acons (.int 1) (.acons (.int 0) (.acons (.int 3) (.acons (.int 0) (.acons (.int 0) (.acons (.int 0) .anil))))))) (.acons (.var 4) .anil)))) .anil))) (.seq (.ex (.mth .append (.var 10) (.acons (.lamc 46 (.call 34 (.acons (.var 5) (.acons (.var 4) (.acons (.var 4) .anil))))) .anil))) (.seq (.ex (.mth .append (.var 10) (.acons (.lamc 46 (.call 34 (.acons (.int 5) (.acons (.var 4) (.acons .non .anil))))) .anil))) (.seq (.ex (.mth .append (.var 10) (.acons (.lamc 46 (.call 34 (.acons (.int 5) (.acons (.int 5) (.acons (.var 4) .anil))))) .anil))) (.seq (.ex (.mth .append (.var 10) (.acons (.lamc 46 (.call 34 (.acons (.int 24) (.acons (.int 24) (.acons (.int 24) .anil))))) .anil))) (.seq (.set 9 (.fz (.cat (.var 9) (.fz (.disp (.acons (.str [99, 111, 117, 110, 116, 115]) (.acons (.var 8) (.acons (.bin .add (.str [110, 117, 109, 98, 101, 114, 32]) (.rpr (.var 5))) (.acons (.var 8) (.acons (.var 8) (.acons (.str [116, 111, 108, 100]) .anil))))))))))) (.ret (.cmp .eq (.var 10) (.fz (.comp [13] (.n 13) (.over (.var 9)) .noe (.ite (.cmp .eq (.var 13) (.str [116, 111, 108, 100])) (.var 13) (.tup (.acons (.str [114, 97, 105, 115, 101, 100]) (.acons (.var 13) .anil))))))))))))))))))))))))))) }
def f48 : FD := { ar := 1, sl := 6, frz := true, body := (.seq (.fors (.n 1) (.range (.acons (.bif .max2 (.acons (.int 1) (.acons (.bif .min2 (.acons (.int 4) (.acons (.bif .len (.acons (.var 0) .anil)) .anil))) .anil))) .anil)) (.seq (.set 3 (.call 43 (.acons (.var 0) (.acons (.var 1) .anil)))) (.ifs (.cmp .ne (.fz (.comp [4] (.n 4) (.range (.acons (.int 4) .anil)) (.sm (.not (.callg 47 (.acons (.var 3) .anil)))) (.int 1))) (.fz (.disp .anil))) (.ret (.bl false)) .skip))) (.seq (.set 2 (.th (.disp (.acons (.lamc 46 (.call 40 (.acons (.mk 0 (.acons (.int 24) (.acons (.bif .tuple (.acons (.fz (.comp [5] (.n 5) (.range (.acons (.int 12) .anil)) .noe (.bin .shl (.int 1) (.var 5)))) .anil)) .anil))) (.acons (.int 6) .anil)))) .anil)))) (.seq (.ex (.mth .append (.var 2) (.acons (.lamc 46 (.call 40 (.acons (.mk 0 (.acons (.int 24) (.acons (.bif .tuple (.acons (.fz (.comp [5] (.n 5) (.range (.acons (.int 13) .anil)) .noe (.bin .shl (.int 1) (.var 5)))) .anil)) .anil))) (.acons (.int 6) .anil)))) .anil))) (.ret (.and (.cmp .eq (.var 2) (.fz (.disp (.acons (.str [116, 111, 108, 100]) (.acons (.tup (.acons (.str [114, 97, 105, 115, 101, 100]) (.acons (.str [109, 97, 110, 121, 32, 52, 48, 57, 54]) .anil))) .anil))))) (.cmp .eq (.gl 3) (.int 4096))))))) }
def f49 : FD := { ar := 3, sl := 3, frz := true, body := (.seq (.ex (.call 16 (.acons (.var 1) .anil))) (.seq (.ex (.call 18 (.acons (.var 1) (.acons (.var 2) .anil)))) (.parf 0 [1, 0] (.acons (.var 1) (.acons (.call 11 (.acons (.var 2) .anil)) .anil))))) }
def f50 : FD := { ar := 1, sl := 1, frz := true, body := (.ret (.attr (.var 0) 1)) }
def f51 : FD := { ar := 1, sl := 1, frz := true, body := (.ret (.attr (.var 0) 0)) }
def f52 : FD := { ar := 1, sl := 1, frz := true, body := (.ret (.bif .len (.acons (.attr (.var 0) 0) .anil))) }
def f53 : FD := { ar := 2, sl := 2, frz := true, body := (.seq (.ifs (.not (.isown 0 (.var 1))) (.ret (.bl false)) .skip) (.ret (.and (.cmp .eq (.attr (.var 0) 1) (.attr (.var 1) 1)) (.cmp .eq (.attr (.var 0) 0) (.attr (.var 1) 0))))) }
def f54 : FD := { ar := 1, sl := 1, frz := true, body := .never }
def tab : List TC := [⟨f0, Str.ofString "is_whole", Str.ofString "is_whole", topS 11, .mod⟩, ⟨f1, Str.ofString "is_from", Str.ofString "is_from", topS 12, .mod⟩, ⟨f2, Str.ofString "is_word_in", Str.ofString "is_word_in", topS 13, .mod⟩, ⟨f3, Str.ofString "are_words_in", Str.ofString "are_words_in", topS 14, .mod⟩, ⟨f4, Str.ofString "weight_in", Str.ofString "weight_in", topS 15, .mod⟩, ⟨f5, Str.ofString "product_in", Str.ofString "product_in", topS 16, .mod⟩, ⟨f6, Str.ofString "head_of", Str.ofString "head_of", topS 17, .mod⟩, ⟨f7, Str.ofString "has_bit", Str.ofString "has_bit", topS 18, .mod⟩, ⟨f8, Str.ofString "word_in", Str.ofString "word_in", topS 19, .mod⟩, ⟨f9, Str.ofString "remainder_in", Str.ofString "remainder_in", topS 20, .mod⟩, ⟨f10, Str.ofString "with_word", Str.ofString "with_word", topS 21, .mod⟩, ⟨f11, Str.ofString "basis_in", Str.ofString "basis_in", topS 22, .mod⟩, ⟨f12, Str.ofString "heads_in", Str.ofString "heads_in", topS 23, .mod⟩, ⟨f13, Str.ofString "free_in", Str.ofString "free_in", topS 24, .mod⟩, ⟨f14, Str.ofString "span_in", Str.ofString "span_in", topS 25, .mod⟩, ⟨f15, Str.ofString "checks_in", Str.ofString "checks_in", topS 26, .mod⟩, ⟨f16, Str.ofString "require_length", Str.ofString "require_length", topS 27, .mod⟩, ⟨f17, Str.ofString "require_word", Str.ofString "require_word", topS 28, .mod⟩, ⟨f18, Str.ofString "require_words", Str.ofString "require_words", topS 29, .mod⟩, ⟨f19, Str.ofString "require_code", Str.ofString "require_code", topS 32, .mod⟩, ⟨f20, Str.ofString "choose", Str.ofString "choose", topS 42, .mod⟩, ⟨f21, Str.ofString "signs_in", Str.ofString "signs_in", topS 43, .mod⟩, ⟨f22, Str.ofString "transformed_in", Str.ofString "transformed_in", topS 44, .mod⟩, ⟨f23, Str.ofString "counts_by", Str.ofString "counts_by", topS 45, .mod⟩, ⟨f24, Str.ofString "divided", Str.ofString "divided", topS 46, .mod⟩, ⟨f25, Str.ofString "counts_in", Str.ofString "counts_in", topS 47, .mod⟩, ⟨f26, Str.ofString "coset_in", Str.ofString "coset_in", topS 48, .mod⟩, ⟨f27, Str.ofString "words_in", Str.ofString "words_in", topS 49, .mod⟩, ⟨f28, Str.ofString "least_in", Str.ofString "least_in", topS 50, .mod⟩, ⟨f29, Str.ofString "is_power", Str.ofString "is_power", topS 51, .mod⟩, ⟨f30, Str.ofString "dual_or_weight_in", Str.ofString "dual_or_weight_in", topS 52, .mod⟩, ⟨f31, Str.ofString "are_counts", Str.ofString "are_counts", topS 53, .mod⟩, ⟨f32, Str.ofString "require_counts", Str.ofString "require_counts", topS 54, .mod⟩, ⟨f33, Str.ofString "require_weight", Str.ofString "require_weight", topS 55, .mod⟩, ⟨f34, Str.ofString "signs", Str.ofString "signs", topS 56, .mod⟩, ⟨f35, Str.ofString "counts_of", Str.ofString "counts_of", topS 57, .mod⟩, ⟨f36, Str.ofString "dual_counts", Str.ofString "dual_counts", topS 58, .mod⟩, ⟨f37, Str.ofString "coset_counts", Str.ofString "coset_counts", topS 59, .mod⟩, ⟨f38, Str.ofString "transformed", Str.ofString "transformed", topS 60, .mod⟩, ⟨f39, Str.ofString "least_weight", Str.ofString "least_weight", topS 61, .mod⟩, ⟨f40, Str.ofString "words_of_weight", Str.ofString "words_of_weight", topS 62, .mod⟩, ⟨f41, Str.ofString "zero_lots", Str.ofString "zero_lots", topS 63, .mod⟩, ⟨f42, Str.ofString "dual_or_weight", Str.ofString "dual_or_weight", topS 64, .mod⟩, ⟨f43, Str.ofString "_law_urn", Str.ofString "_law_urn", topS 66, .mod⟩, ⟨f44, Str.ofString "_law_ball", Str.ofString "_law_ball", topS 67, .mod⟩, ⟨f45, Str.ofString "_law_taken", Str.ofString "_law_taken", topS 68, .mod⟩, ⟨f46, Str.ofString "_law_met", Str.ofString "_law_met", topS 69, .mod⟩, ⟨f47, Str.ofString "_law_right", Str.ofString "_law_right", topS 70, .mod⟩, ⟨f48, Str.ofString "law", Str.ofString "law", topS 71, .mod⟩, ⟨f49, Str.ofString "__init__", Str.ofString "Code.__init__", inClass (topS 31) 1, .ini 0⟩, ⟨f50, Str.ofString "length", Str.ofString "Code.length", inClass (topS 31) 2, .prp 0⟩, ⟨f51, Str.ofString "basis", Str.ofString "Code.basis", inClass (topS 31) 3, .prp 0⟩, ⟨f52, Str.ofString "dimension", Str.ofString "Code.dimension", inClass (topS 31) 4, .prp 0⟩, ⟨f53, Str.ofString "__eq__", Str.ofString "Code.__eq__", inClass (topS 31) 5, .eqm 0⟩, ⟨f54, Str.ofString "__str__", Str.ofString "Code.__str__", inClass (topS 31) 6, .oth 0⟩]
def kds : List Kn := [.low, .low, .low, .low, .low, .low, .low, .low, .low, .low, .low, .low, .low, .low, .low, .low, .low, .low, .low, .low, .low, .low, .low, .low, .low, .low, .low, .low, .low, .low, .low, .low, .low, .low, .low, .low, .low, .low, .low, .low, .low, .low, .low, .low, .low, .low, .met met46, .high true, .high true, .low, .low, .low, .low, .low, .low]
def cs : List (Str × Vl) := [(Str.ofString "MOST_LENGTH_spans", (.int 24)), (Str.ofString "MOST_WORDS_spans", (.int 64)), (Str.ofString "PAIR_spans", (.int 2)), (Str.ofString "MOST_WORDS_counts", (.int 4096)), (Str.ofString "MOST_LENGTH_counts", (.int 24)), (Str.ofString "MOST_NUMBER", (.int 1000000000000000000000000000000000000000000000000000000000000)), (Str.ofString "PAIR_counts", (.int 2)), (Str.ofString "DUAL", (.str [100, 117, 97, 108])), (Str.ofString "SUM", (.str [115, 117, 109])), (Str.ofString "PART", (.str [112, 97, 114, 116])), (Str.ofString "BELOW", (.str [98, 101, 108, 111, 119]))]
def krs : List KR := [⟨Str.ofString "Code", [(Str.ofString "own_basis", 0), (Str.ofString "own_length", 1)], 2⟩]
def ers : List ER := [⟨Str.ofString "InvalidNumber", some (Str.ofString "given")⟩, ⟨Str.ofString "InvalidWord", none⟩, ⟨Str.ofString "InvalidCode", none⟩, ⟨Str.ofString "InvalidCounts", none⟩, ⟨Str.ofString "TooMany", some (Str.ofString "limit")⟩]
def ats : List Str := [Str.ofString "own_basis", Str.ofString "own_length", Str.ofString "length", Str.ofString "basis", Str.ofString "dimension"]
def lms : List Str := [Str.ofString "_law_right", Str.ofString "law"]
abbrev D : Nm := mkDx tab cs krs ats ers
theorem s0 : DSx D ⟨f0, Str.ofString "is_whole", Str.ofString "is_whole", topS 11, .mod⟩ (.low) [Str.ofString "value"] [Str.ofString "value"] := ⟨⟨rfl, rfl, rfl, by decide +kernel, rfl, by decide +kernel, by decide +kernel⟩, fun _ _ _ _ _ _ us hl => match us, hl with | [_], _ => rfl, ⟨rfl, rfl, by decide +kernel⟩⟩
theorem s1 : DSx D ⟨f1, Str.ofString "is_from", Str.ofString "is_from", topS 12, .mod⟩ (.low) [Str.ofString "value", Str.ofString "least", Str.ofString "most"] [Str.ofString "value", Str.ofString "least", Str.ofString "most"] := ⟨⟨rfl, rfl, rfl, by decide +kernel, rfl, by decide +kernel, by decide +kernel⟩, fun _ _ _ _ _ _ us hl => match us, hl with | [_, _, _], _ => rfl, ⟨rfl, rfl, by decide +kernel⟩⟩
theorem s2 : DSx D ⟨f2, Str.ofString "is_word_in", Str.ofString "is_word_in", topS 13, .mod⟩ (.low) [Str.ofString "length", Str.ofString "value"] [Str.ofString "length", Str.ofString "value"] := ⟨⟨rfl, rfl, rfl, by decide +kernel, rfl, by decide +kernel, by decide +kernel⟩, fun _ _ _ _ _ _ us hl => match us, hl with | [_, _], _ => rfl, ⟨rfl, rfl, by decide +kernel⟩⟩
theorem s3 : DSx D ⟨f3, Str.ofString "are_words_in", Str.ofString "are_words_in", topS 14, .mod⟩ (.low) [Str.ofString "length", Str.ofString "value", Str.ofString "one"] [Str.ofString "length", Str.ofString "value"] := ⟨⟨rfl, rfl, rfl, by decide +kernel, rfl, by decide +kernel, by decide +kernel⟩, fun _ _ _ _ _ _ us hl => match us, hl with | [_, _], _ => rfl, ⟨rfl, rfl, by decide +kernel⟩⟩
theorem s4 : DSx D ⟨f4, Str.ofString "weight_in", Str.ofString "weight_in", topS 15, .mod⟩ (.low) [Str.ofString "word", Str.ofString "pairs", Str.ofString "fours"] [Str.ofString "word"] := ⟨⟨rfl, rfl, rfl, by decide +kernel, rfl, by decide +kernel, by decide +kernel⟩, fun _ _ _ _ _ _ us hl => match us, hl with | [_], _ => rfl, ⟨rfl, rfl, by decide +kernel⟩⟩
theorem s5 : DSx D ⟨f5, Str.ofString "product_in", Str.ofString "product_in", topS 16, .mod⟩ (.low) [Str.ofString "one", Str.ofString "other"] [Str.ofString "one", Str.ofString "other"] := ⟨⟨rfl, rfl, rfl, by decide +kernel, rfl, by decide +kernel, by decide +kernel⟩, fun _ _ _ _ _ _ us hl => match us, hl with | [_, _], _ => rfl, ⟨rfl, rfl, by decide +kernel⟩⟩
theorem s6 : DSx D ⟨f6, Str.ofString "head_of", Str.ofString "head_of", topS 17, .mod⟩ (.low) [Str.ofString "word"] [Str.ofString "word"] := ⟨⟨rfl, rfl, rfl, by decide +kernel, rfl, by decide +kernel, by decide +kernel⟩, fun _ _ _ _ _ _ us hl => match us, hl with | [_], _ => rfl, ⟨rfl, rfl, by decide +kernel⟩⟩
theorem s7 : DSx D ⟨f7, Str.ofString "has_bit", Str.ofString "has_bit", topS 18, .mod⟩ (.low) [Str.ofString "word", Str.ofString "place"] [Str.ofString "word", Str.ofString "place"] := ⟨⟨rfl, rfl, rfl, by decide +kernel, rfl, by decide +kernel, by decide +kernel⟩, fun _ _ _ _ _ _ us hl => match us, hl with | [_, _], _ => rfl, ⟨rfl, rfl, by decide +kernel⟩⟩
theorem s8 : DSx D ⟨f8, Str.ofString "word_in", Str.ofString "word_in", topS 19, .mod⟩ (.low) [Str.ofString "places", Str.ofString "place"] [Str.ofString "places"] := ⟨⟨rfl, rfl, rfl, by decide +kernel, rfl, by decide +kernel, by decide +kernel⟩, fun _ _ _ _ _ _ us hl => match us, hl with | [_], _ => rfl, ⟨rfl, rfl, by decide +kernel⟩⟩
theorem s9 : DSx D ⟨f9, Str.ofString "remainder_in", Str.ofString "remainder_in", topS 20, .mod⟩ (.low) [Str.ofString "basis", Str.ofString "word", Str.ofString "one"] [Str.ofString "basis", Str.ofString "word"] := ⟨⟨rfl, rfl, rfl, by decide +kernel, rfl, by decide +kernel, by decide +kernel⟩, fun _ _ _ _ _ _ us hl => match us, hl with | [_, _], _ => rfl, ⟨rfl, rfl, by decide +kernel⟩⟩
theorem s10 : DSx D ⟨f10, Str.ofString "with_word", Str.ofString "with_word", topS 21, .mod⟩ (.low) [Str.ofString "basis", Str.ofString "word", Str.ofString "rest", Str.ofString "place", Str.ofString "one"] [Str.ofString "basis", Str.ofString "word"] := ⟨⟨rfl, rfl, rfl, by decide +kernel, rfl, by decide +kernel, by decide +kernel⟩, fun _ _ _ _ _ _ us hl => match us, hl with | [_, _], _ => rfl, ⟨rfl, rfl, by decide +kernel⟩⟩
theorem s11 : DSx D ⟨f11, Str.ofString "basis_in", Str.ofString "basis_in", topS 22, .mod⟩ (.low) [Str.ofString "words", Str.ofString "found", Str.ofString "word"] [Str.ofString "words"] := ⟨⟨rfl, rfl, rfl, by decide +kernel, rfl, by decide +kernel, by decide +kernel⟩, fun _ _ _ _ _ _ us hl => match us, hl with | [_], _ => rfl, ⟨rfl, rfl, by decide +kernel⟩⟩
theorem s12 : DSx D ⟨f12, Str.ofString "heads_in", Str.ofString "heads_in", topS 23, .mod⟩ (.low) [Str.ofString "basis", Str.ofString "word"] [Str.ofString "basis"] := ⟨⟨rfl, rfl, rfl, by decide +kernel, rfl, by decide +kernel, by decide +kernel⟩, fun _ _ _ _ _ _ us hl => match us, hl with | [_], _ => rfl, ⟨rfl, rfl, by decide +kernel⟩⟩
theorem s13 : DSx D ⟨f13, Str.ofString "free_in", Str.ofString "free_in", topS 24, .mod⟩ (.low) [Str.ofString "length", Str.ofString "basis", Str.ofString "heads", Str.ofString "place"] [Str.ofString "length", Str.ofString "basis"] := ⟨⟨rfl, rfl, rfl, by decide +kernel, rfl, by decide +kernel, by decide +kernel⟩, fun _ _ _ _ _ _ us hl => match us, hl with | [_, _], _ => rfl, ⟨rfl, rfl, by decide +kernel⟩⟩
theorem s14 : DSx D ⟨f14, Str.ofString "span_in", Str.ofString "span_in", topS 25, .mod⟩ (.low) [Str.ofString "basis", Str.ofString "found", Str.ofString "word", Str.ofString "one"] [Str.ofString "basis"] := ⟨⟨rfl, rfl, rfl, by decide +kernel, rfl, by decide +kernel, by decide +kernel⟩, fun _ _ _ _ _ _ us hl => match us, hl with | [_], _ => rfl, ⟨rfl, rfl, by decide +kernel⟩⟩
theorem s15 : DSx D ⟨f15, Str.ofString "checks_in", Str.ofString "checks_in", topS 26, .mod⟩ (.low) [Str.ofString "length", Str.ofString "basis", Str.ofString "found", Str.ofString "place", Str.ofString "word"] [Str.ofString "length", Str.ofString "basis"] := ⟨⟨rfl, rfl, rfl, by decide +kernel, rfl, by decide +kernel, by decide +kernel⟩, fun _ _ _ _ _ _ us hl => match us, hl with | [_, _], _ => rfl, ⟨rfl, rfl, by decide +kernel⟩⟩
theorem s16 : DSx D ⟨f16, Str.ofString "require_length", Str.ofString "require_length", topS 27, .mod⟩ (.low) [Str.ofString "value"] [Str.ofString "value"] := ⟨⟨rfl, rfl, rfl, by decide +kernel, rfl, by decide +kernel, by decide +kernel⟩, fun _ _ _ _ _ _ us hl => match us, hl with | [_], _ => rfl, ⟨rfl, rfl, by decide +kernel⟩⟩
theorem s17 : DSx D ⟨f17, Str.ofString "require_word", Str.ofString "require_word", topS 28, .mod⟩ (.low) [Str.ofString "length", Str.ofString "value"] [Str.ofString "length", Str.ofString "value"] := ⟨⟨rfl, rfl, rfl, by decide +kernel, rfl, by decide +kernel, by decide +kernel⟩, fun _ _ _ _ _ _ us hl => match us, hl with | [_, _], _ => rfl, ⟨rfl, rfl, by decide +kernel⟩⟩
theorem s18 : DSx D ⟨f18, Str.ofString "require_words", Str.ofString "require_words", topS 29, .mod⟩ (.low) [Str.ofString "length", Str.ofString "value"] [Str.ofString "length", Str.ofString "value"] := ⟨⟨rfl, rfl, rfl, by decide +kernel, rfl, by decide +kernel, by decide +kernel⟩, fun _ _ _ _ _ _ us hl => match us, hl with | [_, _], _ => rfl, ⟨rfl, rfl, by decide +kernel⟩⟩
theorem s19 : DSx D ⟨f19, Str.ofString "require_code", Str.ofString "require_code", topS 32, .mod⟩ (.low) [Str.ofString "value"] [Str.ofString "value"] := ⟨⟨rfl, rfl, rfl, by decide +kernel, rfl, by decide +kernel, by decide +kernel⟩, fun _ _ _ _ _ _ us hl => match us, hl with | [_], _ => rfl, ⟨rfl, rfl, by decide +kernel⟩⟩
theorem s20 : DSx D ⟨f20, Str.ofString "choose", Str.ofString "choose", topS 42, .mod⟩ (.low) [Str.ofString "many", Str.ofString "few", Str.ofString "found", Str.ofString "turn"] [Str.ofString "many", Str.ofString "few"] := ⟨⟨rfl, rfl, rfl, by decide +kernel, rfl, by decide +kernel, by decide +kernel⟩, fun _ _ _ _ _ _ us hl => match us, hl with | [_, _], _ => rfl, ⟨rfl, rfl, by decide +kernel⟩⟩
theorem s21 : DSx D ⟨f21, Str.ofString "signs_in", Str.ofString "signs_in", topS 43, .mod⟩ (.low) [Str.ofString "length", Str.ofString "weight", Str.ofString "other", Str.ofString "both", Str.ofString "found", Str.ofString "sign"] [Str.ofString "length", Str.ofString "weight", Str.ofString "other"] := ⟨⟨rfl, rfl, rfl, by decide +kernel, rfl, by decide +kernel, by decide +kernel⟩, fun _ _ _ _ _ _ us hl => match us, hl with | [_, _, _], _ => rfl, ⟨rfl, rfl, by decide +kernel⟩⟩
theorem s22 : DSx D ⟨f22, Str.ofString "transformed_in", Str.ofString "transformed_in", topS 44, .mod⟩ (.low) [Str.ofString "counts", Str.ofString "length", Str.ofString "found", Str.ofString "weight", Str.ofString "other", Str.ofString "one"] [Str.ofString "counts"] := ⟨⟨rfl, rfl, rfl, by decide +kernel, rfl, by decide +kernel, by decide +kernel⟩, fun _ _ _ _ _ _ us hl => match us, hl with | [_], _ => rfl, ⟨rfl, rfl, by decide +kernel⟩⟩
theorem s23 : DSx D ⟨f23, Str.ofString "counts_by", Str.ofString "counts_by", topS 45, .mod⟩ (.low) [Str.ofString "length", Str.ofString "pairs", Str.ofString "found", Str.ofString "word", Str.ofString "number"] [Str.ofString "length", Str.ofString "pairs"] := ⟨⟨rfl, rfl, rfl, by decide +kernel, rfl, by decide +kernel, by decide +kernel⟩, fun _ _ _ _ _ _ us hl => match us, hl with | [_, _], _ => rfl, ⟨rfl, rfl, by decide +kernel⟩⟩
theorem s24 : DSx D ⟨f24, Str.ofString "divided", Str.ofString "divided", topS 46, .mod⟩ (.low) [Str.ofString "row", Str.ofString "number", Str.ofString "one"] [Str.ofString "row", Str.ofString "number"] := ⟨⟨rfl, rfl, rfl, by decide +kernel, rfl, by decide +kernel, by decide +kernel⟩, fun _ _ _ _ _ _ us hl => match us, hl with | [_, _], _ => rfl, ⟨rfl, rfl, by decide +kernel⟩⟩
theorem s25 : DSx D ⟨f25, Str.ofString "counts_in", Str.ofString "counts_in", topS 47, .mod⟩ (.low) [Str.ofString "length", Str.ofString "basis", Str.ofString "checks", Str.ofString "word"] [Str.ofString "length", Str.ofString "basis"] := ⟨⟨rfl, rfl, rfl, by decide +kernel, rfl, by decide +kernel, by decide +kernel⟩, fun _ _ _ _ _ _ us hl => match us, hl with | [_, _], _ => rfl, ⟨rfl, rfl, by decide +kernel⟩⟩
theorem s26 : DSx D ⟨f26, Str.ofString "coset_in", Str.ofString "coset_in", topS 48, .mod⟩ (.low) [Str.ofString "length", Str.ofString "basis", Str.ofString "word", Str.ofString "checks", Str.ofString "signed", Str.ofString "one"] [Str.ofString "length", Str.ofString "basis", Str.ofString "word"] := ⟨⟨rfl, rfl, rfl, by decide +kernel, rfl, by decide +kernel, by decide +kernel⟩, fun _ _ _ _ _ _ us hl => match us, hl with | [_, _, _], _ => rfl, ⟨rfl, rfl, by decide +kernel⟩⟩
theorem s27 : DSx D ⟨f27, Str.ofString "words_in", Str.ofString "words_in", topS 49, .mod⟩ (.low) [Str.ofString "basis", Str.ofString "weight", Str.ofString "word"] [Str.ofString "basis", Str.ofString "weight"] := ⟨⟨rfl, rfl, rfl, by decide +kernel, rfl, by decide +kernel, by decide +kernel⟩, fun _ _ _ _ _ _ us hl => match us, hl with | [_, _], _ => rfl, ⟨rfl, rfl, by decide +kernel⟩⟩
theorem s28 : DSx D ⟨f28, Str.ofString "least_in", Str.ofString "least_in", topS 50, .mod⟩ (.low) [Str.ofString "counts", Str.ofString "some", Str.ofString "weight", Str.ofString "one"] [Str.ofString "counts"] := ⟨⟨rfl, rfl, rfl, by decide +kernel, rfl, by decide +kernel, by decide +kernel⟩, fun _ _ _ _ _ _ us hl => match us, hl with | [_], _ => rfl, ⟨rfl, rfl, by decide +kernel⟩⟩
theorem s29 : DSx D ⟨f29, Str.ofString "is_power", Str.ofString "is_power", topS 51, .mod⟩ (.low) [Str.ofString "number"] [Str.ofString "number"] := ⟨⟨rfl, rfl, rfl, by decide +kernel, rfl, by decide +kernel, by decide +kernel⟩, fun _ _ _ _ _ _ us hl => match us, hl with | [_], _ => rfl, ⟨rfl, rfl, by decide +kernel⟩⟩
theorem s30 : DSx D ⟨f30, Str.ofString "dual_or_weight_in", Str.ofString "dual_or_weight_in", topS 52, .mod⟩ (.low) [Str.ofString "counts", Str.ofString "total", Str.ofString "row", Str.ofString "weight", Str.ofString "one"] [Str.ofString "counts"] := ⟨⟨rfl, rfl, rfl, by decide +kernel, rfl, by decide +kernel, by decide +kernel⟩, fun _ _ _ _ _ _ us hl => match us, hl with | [_], _ => rfl, ⟨rfl, rfl, by decide +kernel⟩⟩
theorem s31 : DSx D ⟨f31, Str.ofString "are_counts", Str.ofString "are_counts", topS 53, .mod⟩ (.low) [Str.ofString "value", Str.ofString "one"] [Str.ofString "value"] := ⟨⟨rfl, rfl, rfl, by decide +kernel, rfl, by decide +kernel, by decide +kernel⟩, fun _ _ _ _ _ _ us hl => match us, hl with | [_], _ => rfl, ⟨rfl, rfl, by decide +kernel⟩⟩
theorem s32 : DSx D ⟨f32, Str.ofString "require_counts", Str.ofString "require_counts", topS 54, .mod⟩ (.low) [Str.ofString "value"] [Str.ofString "value"] := ⟨⟨rfl, rfl, rfl, by decide +kernel, rfl, by decide +kernel, by decide +kernel⟩, fun _ _ _ _ _ _ us hl => match us, hl with | [_], _ => rfl, ⟨rfl, rfl, by decide +kernel⟩⟩
theorem s33 : DSx D ⟨f33, Str.ofString "require_weight", Str.ofString "require_weight", topS 55, .mod⟩ (.low) [Str.ofString "length", Str.ofString "value"] [Str.ofString "length", Str.ofString "value"] := ⟨⟨rfl, rfl, rfl, by decide +kernel, rfl, by decide +kernel, by decide +kernel⟩, fun _ _ _ _ _ _ us hl => match us, hl with | [_, _], _ => rfl, ⟨rfl, rfl, by decide +kernel⟩⟩
theorem s34 : DSx D ⟨f34, Str.ofString "signs", Str.ofString "signs", topS 56, .mod⟩ (.low) [Str.ofString "length", Str.ofString "weight", Str.ofString "other"] [Str.ofString "length", Str.ofString "weight", Str.ofString "other"] := ⟨⟨rfl, rfl, rfl, by decide +kernel, rfl, by decide +kernel, by decide +kernel⟩, fun _ _ _ _ _ _ us hl => match us, hl with | [_, _, _], _ => rfl, ⟨rfl, rfl, by decide +kernel⟩⟩
theorem s35 : DSx D ⟨f35, Str.ofString "counts_of", Str.ofString "counts_of", topS 57, .mod⟩ (.low) [Str.ofString "code"] [Str.ofString "code"] := ⟨⟨rfl, rfl, rfl, by decide +kernel, rfl, by decide +kernel, by decide +kernel⟩, fun _ _ _ _ _ _ us hl => match us, hl with | [_], _ => rfl, ⟨rfl, rfl, by decide +kernel⟩⟩
theorem s36 : DSx D ⟨f36, Str.ofString "dual_counts", Str.ofString "dual_counts", topS 58, .mod⟩ (.low) [Str.ofString "code"] [Str.ofString "code"] := ⟨⟨rfl, rfl, rfl, by decide +kernel, rfl, by decide +kernel, by decide +kernel⟩, fun _ _ _ _ _ _ us hl => match us, hl with | [_], _ => rfl, ⟨rfl, rfl, by decide +kernel⟩⟩
theorem s37 : DSx D ⟨f37, Str.ofString "coset_counts", Str.ofString "coset_counts", topS 59, .mod⟩ (.low) [Str.ofString "code", Str.ofString "word"] [Str.ofString "code", Str.ofString "word"] := ⟨⟨rfl, rfl, rfl, by decide +kernel, rfl, by decide +kernel, by decide +kernel⟩, fun _ _ _ _ _ _ us hl => match us, hl with | [_, _], _ => rfl, ⟨rfl, rfl, by decide +kernel⟩⟩
theorem s38 : DSx D ⟨f38, Str.ofString "transformed", Str.ofString "transformed", topS 60, .mod⟩ (.low) [Str.ofString "counts"] [Str.ofString "counts"] := ⟨⟨rfl, rfl, rfl, by decide +kernel, rfl, by decide +kernel, by decide +kernel⟩, fun _ _ _ _ _ _ us hl => match us, hl with | [_], _ => rfl, ⟨rfl, rfl, by decide +kernel⟩⟩
theorem s39 : DSx D ⟨f39, Str.ofString "least_weight", Str.ofString "least_weight", topS 61, .mod⟩ (.low) [Str.ofString "code"] [Str.ofString "code"] := ⟨⟨rfl, rfl, rfl, by decide +kernel, rfl, by decide +kernel, by decide +kernel⟩, fun _ _ _ _ _ _ us hl => match us, hl with | [_], _ => rfl, ⟨rfl, rfl, by decide +kernel⟩⟩
theorem s40 : DSx D ⟨f40, Str.ofString "words_of_weight", Str.ofString "words_of_weight", topS 62, .mod⟩ (.low) [Str.ofString "code", Str.ofString "weight"] [Str.ofString "code", Str.ofString "weight"] := ⟨⟨rfl, rfl, rfl, by decide +kernel, rfl, by decide +kernel, by decide +kernel⟩, fun _ _ _ _ _ _ us hl => match us, hl with | [_, _], _ => rfl, ⟨rfl, rfl, by decide +kernel⟩⟩
theorem s41 : DSx D ⟨f41, Str.ofString "zero_lots", Str.ofString "zero_lots", topS 63, .mod⟩ (.low) [Str.ofString "counts", Str.ofString "many", Str.ofString "length", Str.ofString "weight", Str.ofString "one"] [Str.ofString "counts", Str.ofString "many"] := ⟨⟨rfl, rfl, rfl, by decide +kernel, rfl, by decide +kernel, by decide +kernel⟩, fun _ _ _ _ _ _ us hl => match us, hl with | [_, _], _ => rfl, ⟨rfl, rfl, by decide +kernel⟩⟩
theorem s42 : DSx D ⟨f42, Str.ofString "dual_or_weight", Str.ofString "dual_or_weight", topS 64, .mod⟩ (.low) [Str.ofString "counts"] [Str.ofString "counts"] := ⟨⟨rfl, rfl, rfl, by decide +kernel, rfl, by decide +kernel, by decide +kernel⟩, fun _ _ _ _ _ _ us hl => match us, hl with | [_], _ => rfl, ⟨rfl, rfl, by decide +kernel⟩⟩
theorem s43 : DSx D ⟨f43, Str.ofString "_law_urn", Str.ofString "_law_urn", topS 66, .mod⟩ (.low) [Str.ofString "script", Str.ofString "spot", Str.ofString "cell", Str.ofString "great"] [Str.ofString "script", Str.ofString "spot"] := ⟨⟨rfl, rfl, rfl, by decide +kernel, rfl, by decide +kernel, by decide +kernel⟩, fun _ _ _ _ _ _ us hl => match us, hl with | [_, _], _ => rfl, ⟨rfl, rfl, by decide +kernel⟩⟩
theorem s44 : DSx D ⟨f44, Str.ofString "_law_ball", Str.ofString "_law_ball", topS 67, .mod⟩ (.low) [Str.ofString "urn", Str.ofString "many", Str.ofString "one", Str.ofString "two", Str.ofString "found"] [Str.ofString "urn", Str.ofString "many"] := ⟨⟨rfl, rfl, rfl, by decide +kernel, rfl, by decide +kernel, by decide +kernel⟩, fun _ _ _ _ _ _ us hl => match us, hl with | [_, _], _ => rfl, ⟨rfl, rfl, by decide +kernel⟩⟩
theorem s45 : DSx D ⟨f45, Str.ofString "_law_taken", Str.ofString "_law_taken", topS 68, .mod⟩ (.low) [Str.ofString "urn", Str.ofString "items"] [Str.ofString "urn", Str.ofString "items"] := ⟨⟨rfl, rfl, rfl, by decide +kernel, rfl, by decide +kernel, by decide +kernel⟩, fun _ _ _ _ _ _ us hl => match us, hl with | [_, _], _ => rfl, ⟨rfl, rfl, by decide +kernel⟩⟩
theorem s46 : DSx D ⟨f46, Str.ofString "_law_met", Str.ofString "_law_met", topS 69, .mod⟩ (.met met46) [Str.ofString "call", Str.ofString "error"] [Str.ofString "call"] := ⟨⟨rfl, rfl, rfl, by decide +kernel, rfl, by decide +kernel, by decide +kernel⟩, fun _ _ _ _ _ _ us hl => match us, hl with | [_], _ => rfl, ⟨rfl, Str.ofString "call", rfl, by decide +kernel⟩⟩
theorem s47 : DSx D ⟨f47, Str.ofString "_law_right", Str.ofString "_law_right", topS 70, .mod⟩ (.high true) [Str.ofString "urn", Str.ofString "code", Str.ofString "none", Str.ofString "word", Str.ofString "weight", Str.ofString "length", Str.ofString "counts", Str.ofString "call", Str.ofString "number", Str.ofString "due", Str.ofString "told", Str.ofString "wrong", Str.ofString "mark", Str.ofString "one"] [Str.ofString "urn"] := ⟨⟨rfl, rfl, rfl, by decide +kernel, rfl, by decide +kernel, by decide +kernel⟩, fun _ _ _ _ _ _ us hl => match us, hl with | [_], _ => rfl, ⟨rfl, rfl, by decide +kernel⟩⟩
theorem s48 : DSx D ⟨f48, Str.ofString "law", Str.ofString "law", topS 71, .mod⟩ (.high true) [Str.ofString "script", Str.ofString "spot", Str.ofString "told", Str.ofString "urn", Str.ofString "turn", Str.ofString "at"] [Str.ofString "script"] := ⟨⟨rfl, rfl, rfl, by decide +kernel, rfl, by decide +kernel, by decide +kernel⟩, fun _ _ _ _ _ _ us hl => match us, hl with | [_], _ => rfl, ⟨rfl, rfl, by decide +kernel⟩⟩
theorem s49 : DSx D ⟨f49, Str.ofString "__init__", Str.ofString "Code.__init__", inClass (topS 31) 1, .ini 0⟩ (.low) [Str.ofString "self", Str.ofString "length", Str.ofString "words"] [Str.ofString "self", Str.ofString "length", Str.ofString "words"] := ⟨⟨rfl, rfl, rfl, by decide +kernel, rfl, by decide +kernel, by decide +kernel⟩, fun _ _ _ _ _ _ us hl => match us, hl with | [_, _, _], _ => rfl, ⟨rfl, rfl, by decide +kernel⟩⟩
theorem s50 : DSx D ⟨f50, Str.ofString "length", Str.ofString "Code.length", inClass (topS 31) 2, .prp 0⟩ (.low) [Str.ofString "self"] [Str.ofString "self"] := ⟨⟨rfl, rfl, rfl, by decide +kernel, rfl, by decide +kernel, by decide +kernel⟩, fun _ _ _ _ _ _ us hl => match us, hl with | [_], _ => rfl, ⟨rfl, rfl, by decide +kernel⟩⟩
theorem s51 : DSx D ⟨f51, Str.ofString "basis", Str.ofString "Code.basis", inClass (topS 31) 3, .prp 0⟩ (.low) [Str.ofString "self"] [Str.ofString "self"] := ⟨⟨rfl, rfl, rfl, by decide +kernel, rfl, by decide +kernel, by decide +kernel⟩, fun _ _ _ _ _ _ us hl => match us, hl with | [_], _ => rfl, ⟨rfl, rfl, by decide +kernel⟩⟩
theorem s52 : DSx D ⟨f52, Str.ofString "dimension", Str.ofString "Code.dimension", inClass (topS 31) 4, .prp 0⟩ (.low) [Str.ofString "self"] [Str.ofString "self"] := ⟨⟨rfl, rfl, rfl, by decide +kernel, rfl, by decide +kernel, by decide +kernel⟩, fun _ _ _ _ _ _ us hl => match us, hl with | [_], _ => rfl, ⟨rfl, rfl, by decide +kernel⟩⟩
theorem s53 : DSx D ⟨f53, Str.ofString "__eq__", Str.ofString "Code.__eq__", inClass (topS 31) 5, .eqm 0⟩ (.low) [Str.ofString "self", Str.ofString "value"] [Str.ofString "self", Str.ofString "value"] := ⟨⟨rfl, rfl, rfl, by decide +kernel, rfl, by decide +kernel, by decide +kernel⟩, fun _ _ _ _ _ _ us hl => match us, hl with | [_, _], _ => rfl, ⟨rfl, rfl, by decide +kernel⟩⟩
theorem s54 : DSx D ⟨f54, Str.ofString "__str__", Str.ofString "Code.__str__", inClass (topS 31) 6, .oth 0⟩ (.low) [Str.ofString "self"] [Str.ofString "self"] := ⟨⟨rfl, rfl, rfl, by decide +kernel, rfl, by decide +kernel, by decide +kernel⟩, fun _ _ _ _ _ _ us hl => match us, hl with | [_], _ => rfl, ⟨rfl, rfl, by decide +kernel⟩⟩
theorem sall : AllSx D tab kds := ⟨⟨_, _, s0⟩, ⟨_, _, s1⟩, ⟨_, _, s2⟩, ⟨_, _, s3⟩, ⟨_, _, s4⟩, ⟨_, _, s5⟩, ⟨_, _, s6⟩, ⟨_, _, s7⟩, ⟨_, _, s8⟩, ⟨_, _, s9⟩, ⟨_, _, s10⟩, ⟨_, _, s11⟩, ⟨_, _, s12⟩, ⟨_, _, s13⟩, ⟨_, _, s14⟩, ⟨_, _, s15⟩, ⟨_, _, s16⟩, ⟨_, _, s17⟩, ⟨_, _, s18⟩, ⟨_, _, s19⟩, ⟨_, _, s20⟩, ⟨_, _, s21⟩, ⟨_, _, s22⟩, ⟨_, _, s23⟩, ⟨_, _, s24⟩, ⟨_, _, s25⟩, ⟨_, _, s26⟩, ⟨_, _, s27⟩, ⟨_, _, s28⟩, ⟨_, _, s29⟩, ⟨_, _, s30⟩, ⟨_, _, s31⟩, ⟨_, _, s32⟩, ⟨_, _, s33⟩, ⟨_, _, s34⟩, ⟨_, _, s35⟩, ⟨_, _, s36⟩, ⟨_, _, s37⟩, ⟨_, _, s38⟩, ⟨_, _, s39⟩, ⟨_, _, s40⟩, ⟨_, _, s41⟩, ⟨_, _, s42⟩, ⟨_, _, s43⟩, ⟨_, _, s44⟩, ⟨_, _, s45⟩, ⟨_, _, s46⟩, ⟨_, _, s47⟩, ⟨_, _, s48⟩, ⟨_, _, s49⟩, ⟨_, _, s50⟩, ⟨_, _, s51⟩, ⟨_, _, s52⟩, ⟨_, _, s53⟩, ⟨_, _, s54⟩, True.intro⟩
abbrev GG : GT := mkGx tab kds (cs.map (·.2)) krs ats ers
abbrev FL : Nat → Option FD := mkFl tab kds
abbrev FF : Nat → Option FD := FL
abbrev FH : Nat → Option FD := mkFh tab kds
abbrev LOW : CF := run GG FL 20
end Law
set_option Elab.async false
set_option linter.all false
namespace Gf
theorem tb_head {w : Nat} (h : w ≠ 0) : w.testBit w.log2 = true := by
  have h1 := Nat.log2_self_le h
  have h2 : w < 2 ^ (w.log2 + 1) := Nat.lt_log2_self
  rw [Nat.testBit_eq_decide_div_mod_eq]
  have h3 : w / 2 ^ w.log2 = 1 := by
    apply Nat.div_eq_of_lt_le
    · rw [Nat.one_mul]; exact h1
    · rw [show (1 + 1) * 2 ^ w.log2 = 2 ^ (w.log2 + 1) by rw [Nat.pow_succ]; omega]; exact h2
  rw [h3]
  rfl
theorem tb_le {w i : Nat} (h : w.testBit i = true) : i ≤ w.log2 := by
  have h1 := Nat.ge_two_pow_of_testBit h
  have h0 : w ≠ 0 := by
    intro z
    subst z
    simp at h
  exact (Nat.le_log2 h0).mpr h1
theorem eq_zero_of {w : Nat} (h : ∀ i, w.testBit i = false) : w = 0 := by
  apply Nat.eq_of_testBit_eq
  intro i
  rw [h i, Nat.zero_testBit]
theorem xor_eq_zero {a b : Nat} (h : a ^^^ b = 0) : a = b := by
  apply Nat.eq_of_testBit_eq
  intro i
  have : (a ^^^ b).testBit i = false := by rw [h, Nat.zero_testBit]
  rw [Nat.testBit_xor] at this
  cases ha : a.testBit i <;> cases hb : b.testBit i <;> rw [ha, hb] at this <;> first | rfl | cases this
theorem xor_cancel (a b : Nat) : (a ^^^ b) ^^^ b = a := by rw [Nat.xor_assoc, Nat.xor_self, Nat.xor_zero]
def Sp : List Nat → Nat → Prop
  | [], v => v = 0
  | w :: r, v => Sp r v ∨ Sp r (v ^^^ w)
theorem sp_zero : ∀ ws, Sp ws 0
  | [] => rfl
  | _ :: r => .inl (sp_zero r)
theorem sp_xor : ∀ {ws : List Nat} {a b : Nat}, Sp ws a → Sp ws b → Sp ws (a ^^^ b)
  | [], a, b, h, g => by
    cases (show a = 0 from h)
    cases (show b = 0 from g)
    rfl
  | w :: r, a, b, h, g => by
    rcases h with h | h <;> rcases g with g | g
    · exact .inl (sp_xor h g)
    · right
      have := sp_xor h g
      rwa [← Nat.xor_assoc] at this
    · right
      have := sp_xor h g
      rwa [Nat.xor_assoc, Nat.xor_comm w b, ← Nat.xor_assoc] at this
    · left
      have := sp_xor h g
      rwa [Nat.xor_assoc, ← Nat.xor_assoc w b w, Nat.xor_comm w b, Nat.xor_assoc b w w, Nat.xor_self, Nat.xor_zero] at this
theorem sp_mem : ∀ {ws : List Nat} {w : Nat}, w ∈ ws → Sp ws w
  | v :: r, w, h => by
    rcases List.mem_cons.mp h with rfl | h
    · right
      rw [Nat.xor_self]
      exact sp_zero r
    · exact .inl (sp_mem h)
theorem sp_sub : ∀ {ws us : List Nat} {v : Nat}, (∀ w ∈ ws, Sp us w) → Sp ws v → Sp us v
  | [], us, v, _, h => by
    cases (show v = 0 from h)
    exact sp_zero us
  | w :: r, us, v, g, h => by
    rcases h with h | h
    · exact sp_sub (fun x hx => g x (List.mem_cons_of_mem _ hx)) h
    · have := sp_xor (sp_sub (fun x hx => g x (List.mem_cons_of_mem _ hx)) h) (g w List.mem_cons_self)
      rwa [xor_cancel] at this
def Same (ws us : List Nat) : Prop := ∀ v, Sp ws v ↔ Sp us v
theorem same_of {ws us : List Nat} (h : ∀ w ∈ ws, Sp us w) (g : ∀ u ∈ us, Sp ws u) : Same ws us := fun _ => ⟨sp_sub h, sp_sub g⟩
theorem Same.refl (ws : List Nat) : Same ws ws := fun _ => Iff.rfl
theorem Same.symm {ws us : List Nat} (h : Same ws us) : Same us ws := fun v => (h v).symm
theorem Same.trans {ws us vs : List Nat} (h : Same ws us) (g : Same us vs) : Same ws vs := fun v => (h v).trans (g v)
theorem Same.cons {ws us : List Nat} (h : Same ws us) (w : Nat) : Same (w :: ws) (w :: us) := fun v => or_congr (h v) (h _)
theorem sp_bit : ∀ {ws : List Nat} {p v : Nat}, (∀ w ∈ ws, w.testBit p = false) → Sp ws v → v.testBit p = false
  | [], p, v, _, h => by
    cases (show v = 0 from h)
    exact Nat.zero_testBit p
  | w :: r, p, v, g, h => by
    rcases h with h | h
    · exact sp_bit (fun x hx => g x (List.mem_cons_of_mem _ hx)) h
    · have := sp_bit (fun x hx => g x (List.mem_cons_of_mem _ hx)) h
      rw [Nat.testBit_xor, g w List.mem_cons_self] at this
      simpa using this
structure Red (bs : List Nat) : Prop where
  pos : ∀ b ∈ bs, b ≠ 0
  one : ∀ b ∈ bs, ∀ c ∈ bs, c.testBit b.log2 = true → c = b
  nd : bs.Nodup
theorem Red.tail {b : Nat} {bs : List Nat} (h : Red (b :: bs)) : Red bs :=
  ⟨fun c hc => h.pos c (List.mem_cons_of_mem _ hc), fun c hc d hd => h.one c (List.mem_cons_of_mem _ hc) d (List.mem_cons_of_mem _ hd), (List.nodup_cons.mp h.nd).2⟩
theorem Red.off {b : Nat} {bs : List Nat} (h : Red (b :: bs)) : ∀ c ∈ bs, c.testBit b.log2 = false := fun c hc => by
  cases e : c.testBit b.log2 with
  | false => rfl
  | true =>
    have := h.one b List.mem_cons_self c (List.mem_cons_of_mem _ hc) e
    rw [this] at hc
    exact absurd hc (List.nodup_cons.mp h.nd).1
theorem red_zero : ∀ {bs : List Nat} {v : Nat}, Red bs → Sp bs v → (∀ b ∈ bs, v.testBit b.log2 = false) → v = 0
  | [], _, _, h, _ => h
  | b :: r, v, R, h, g => by
    rcases h with h | h
    · exact red_zero R.tail h fun c hc => g c (List.mem_cons_of_mem _ hc)
    · have := sp_bit R.off h
      rw [Nat.testBit_xor, g b List.mem_cons_self, tb_head (R.pos b List.mem_cons_self)] at this
      cases this
theorem red_eq {bs : List Nat} {u v : Nat} (R : Red bs) (hu : Sp bs u) (hv : Sp bs v) (h : ∀ b ∈ bs, u.testBit b.log2 = v.testBit b.log2) : u = v := by
  apply xor_eq_zero
  refine red_zero R (sp_xor hu hv) fun b hb => ?_
  rw [Nat.testBit_xor, h b hb, Bool.xor_self]
theorem red_head : ∀ {bs : List Nat} {v : Nat}, Red bs → Sp bs v → v ≠ 0 → ∃ b ∈ bs, v.log2 = b.log2
  | [], _, _, h, n => absurd h n
  | b :: r, v, R, h, n => by
    rcases h with h | h
    · obtain ⟨c, hc, e⟩ := red_head R.tail h n
      exact ⟨c, List.mem_cons_of_mem _ hc, e⟩
    · by_cases z : v ^^^ b = 0
      · exact ⟨b, List.mem_cons_self, by rw [xor_eq_zero z]⟩
      · obtain ⟨c, hc, e⟩ := red_head R.tail h z
        have hb := tb_head (R.pos b List.mem_cons_self)
        have hvb := sp_bit R.off h
        have hv : v.testBit b.log2 = true := by
          rw [Nat.testBit_xor, hb] at hvb
          cases hh : v.testBit b.log2 with
          | true => rfl
          | false => rw [hh] at hvb; cases hvb
        -- the greater of b's head and c's head
        have hne : b.log2 ≠ c.log2 := fun z => by
          have := R.off c hc
          rw [z, tb_head (R.tail.pos c hc)] at this
          cases this
        have hcb : b.testBit c.log2 = false := by
          cases q : b.testBit c.log2 with
          | false => rfl
          | true =>
            have := R.one c (List.mem_cons_of_mem _ hc) b List.mem_cons_self q
            exact absurd (by rw [this]) hne
        by_cases hlt : b.log2 < c.log2
        · refine ⟨c, List.mem_cons_of_mem _ hc, ?_⟩
          have h1 : v.testBit c.log2 = true := by
            have := tb_head z
            rw [e, Nat.testBit_xor, hcb] at this
            simpa using this
          apply Nat.le_antisymm
          · apply Nat.not_lt.mp
            intro hl
            have t := tb_head n
            have t2 : (v ^^^ b).testBit v.log2 = true := by
              rw [Nat.testBit_xor, t]
              have : b.testBit v.log2 = false := by
                cases q : b.testBit v.log2 with
                | false => rfl
                | true => have := tb_le q; omega
              rw [this]
              rfl
            have := tb_le t2
            omega
          · exact tb_le h1
        · refine ⟨b, List.mem_cons_self, ?_⟩
          apply Nat.le_antisymm
          · apply Nat.not_lt.mp
            intro hl
            have t := tb_head n
            have t2 : (v ^^^ b).testBit v.log2 = true := by
              rw [Nat.testBit_xor, t]
              have : b.testBit v.log2 = false := by
                cases q : b.testBit v.log2 with
                | false => rfl
                | true => have := tb_le q; omega
              rw [this]
              rfl
            have := tb_le t2
            omega
          · exact tb_le hv
theorem red_mem {bs cs : List Nat} (R : Red bs) (S : Red cs) (e : Same bs cs) {b : Nat} (hb : b ∈ bs) : b ∈ cs := by
  have hs : Sp cs b := (e b).mp (sp_mem hb)
  obtain ⟨c, hc, el⟩ := red_head S hs (R.pos b hb)
  have : b = c := by
    refine red_eq S hs (sp_mem hc) fun d hd => ?_
    by_cases hdc : d = c
    · subst hdc
      rw [← el, tb_head (R.pos b hb), el, tb_head (S.pos d hd)]
    · have h1 : c.testBit d.log2 = false := by
        cases q : c.testBit d.log2 with
        | false => rfl
        | true => exact absurd (S.one d hd c hc q).symm hdc
      rw [h1]
      obtain ⟨b', hb', el'⟩ := red_head R ((e d).mpr (sp_mem hd)) (S.pos d hd)
      cases q : b.testBit d.log2 with
      | false => rfl
      | true =>
        rw [el'] at q
        have := R.one b' hb' b hb q
        subst this
        have : d.testBit c.log2 = true := by
          rw [← el, ← el']
          exact tb_head (S.pos d hd)
        exact absurd (S.one c hc d hd this) hdc
  rw [this]
  exact hc
theorem desc_eq : ∀ {bs cs : List Nat}, bs.Pairwise (· > ·) → cs.Pairwise (· > ·) → (∀ x, x ∈ bs ↔ x ∈ cs) → bs = cs
  | [], [], _, _, _ => rfl
  | [], c :: cs, _, _, h => absurd ((h c).mpr List.mem_cons_self) (by simp)
  | b :: bs, [], _, _, h => absurd ((h b).mp List.mem_cons_self) (by simp)
  | b :: bs, c :: cs, p, q, h => by
    have e : b = c := by
      rcases List.mem_cons.mp ((h b).mp List.mem_cons_self) with z | z
      · exact z
      · rcases List.mem_cons.mp ((h c).mpr List.mem_cons_self) with w | w
        · exact w.symm
        · have h1 := (List.pairwise_cons.mp q).1 b z
          have h2 := (List.pairwise_cons.mp p).1 c w
          omega
    subst e
    rw [desc_eq (List.pairwise_cons.mp p).2 (List.pairwise_cons.mp q).2 fun x => ?_]
    constructor
    · intro hx
      have := (List.pairwise_cons.mp p).1 x hx
      rcases List.mem_cons.mp ((h x).mp (List.mem_cons_of_mem _ hx)) with z | z
      · omega
      · exact z
    · intro hx
      have := (List.pairwise_cons.mp q).1 x hx
      rcases List.mem_cons.mp ((h x).mpr (List.mem_cons_of_mem _ hx)) with z | z
      · omega
      · exact z
theorem red_unique {bs cs : List Nat} (R : Red bs) (S : Red cs) (e : Same bs cs) (p : bs.Pairwise (· > ·)) (q : cs.Pairwise (· > ·)) : bs = cs :=
  desc_eq p q fun x => ⟨red_mem R S e, red_mem S R e.symm⟩
end Gf
set_option Elab.async false
set_option linter.all false
namespace Gf
theorem log2_of {x k : Nat} (h : x.testBit k = true) (g : ∀ i, k < i → x.testBit i = false) : x.log2 = k := by
  apply Nat.le_antisymm
  · apply Nat.not_lt.mp
    intro hl
    have n : x ≠ 0 := by
      intro z
      subst z
      simp at h
    have := tb_head n
    rw [g _ hl] at this
    cases this
  · exact tb_le h
theorem tb_above {x i : Nat} (h : x.log2 < i) : x.testBit i = false := by
  cases q : x.testBit i with
  | false => rfl
  | true => have := tb_le q; omega
def rem (bs : List Nat) (w : Nat) : Nat := bs.foldl (fun w b => if w.testBit b.log2 then w ^^^ b else w) w
theorem rem_cons (b : Nat) (bs : List Nat) (w : Nat) : rem (b :: bs) w = rem bs (if w.testBit b.log2 then w ^^^ b else w) := rfl
theorem rem_sp : ∀ (bs : List Nat) (w : Nat), Sp bs (rem bs w ^^^ w)
  | [], w => Nat.xor_self w
  | b :: r, w => by
    rw [rem_cons]
    have := rem_sp r (if w.testBit b.log2 then w ^^^ b else w)
    split at this
    · rename_i h
      rw [if_pos h]
      right
      rwa [Nat.xor_assoc]
    · rename_i h
      rw [if_neg h]
      exact .inl this
theorem rem_off {bs : List Nat} (R : Red bs) : ∀ {r : List Nat} (w : Nat), (∀ x ∈ r, x ∈ bs) → r.Nodup → ∀ b ∈ bs, (rem r w).testBit b.log2 = (if b ∈ r then false else w.testBit b.log2)
  | [], w, _, _, b, _ => by simp [rem]
  | c :: r, w, hs, nd, b, hb => by
    rw [rem_cons, rem_off R _ (fun x hx => hs x (List.mem_cons_of_mem _ hx)) (List.nodup_cons.mp nd).2 b hb]
    have hc := hs c List.mem_cons_self
    by_cases hbr : b ∈ r
    · rw [if_pos hbr, if_pos (List.mem_cons_of_mem _ hbr)]
    · rw [if_neg hbr]
      by_cases hbc : b = c
      · subst hbc
        rw [if_pos List.mem_cons_self]
        split
        · rename_i h
          rw [Nat.testBit_xor, h, tb_head (R.pos b hb)]
          rfl
        · rename_i h
          simpa using h
      · rw [if_neg (fun z => (List.mem_cons.mp z).elim hbc hbr)]
        have h1 : c.testBit b.log2 = false := by
          cases q : c.testBit b.log2 with
          | false => rfl
          | true => exact absurd (R.one b hb c hc q).symm hbc
        split
        · rw [Nat.testBit_xor, h1, Bool.xor_false]
        · rfl
theorem rem_head {bs : List Nat} (R : Red bs) (w : Nat) : ∀ b ∈ bs, (rem bs w).testBit b.log2 = false := fun b hb => by
  rw [rem_off R w (fun _ h => h) R.nd b hb, if_pos hb]
theorem rem_unique {bs : List Nat} (R : Red bs) {u v : Nat} (h : Sp bs (u ^^^ v)) : rem bs u = rem bs v := by
  apply xor_eq_zero
  refine red_zero R ?_ fun b hb => by rw [Nat.testBit_xor, rem_head R u b hb, rem_head R v b hb]; rfl
  have h1 := sp_xor (rem_sp bs u) (rem_sp bs v)
  have h2 := sp_xor h1 h
  have e : rem bs u ^^^ u ^^^ (rem bs v ^^^ v) ^^^ (u ^^^ v) = rem bs u ^^^ rem bs v := by
    apply Nat.eq_of_testBit_eq
    intro i
    simp only [Nat.testBit_xor]
    cases (rem bs u).testBit i <;> cases (rem bs v).testBit i <;> cases u.testBit i <;> cases v.testBit i <;> rfl
  rwa [e] at h2
theorem rem_zero {bs : List Nat} (R : Red bs) (w : Nat) : rem bs w = 0 ↔ Sp bs w := by
  constructor
  · intro h
    have := rem_sp bs w
    rwa [h, Nat.zero_xor] at this
  · intro h
    refine red_zero R ?_ (rem_head R w)
    have := sp_xor (rem_sp bs w) h
    rwa [xor_cancel] at this
def clr (r b : Nat) : Nat := if b.testBit r.log2 then b ^^^ r else b
def more (bs : List Nat) (r : Nat) : List Nat := bs.map (clr r) ++ [r]
section
variable {bs : List Nat} {r : Nat}
theorem clr_head (R : Red bs) (n : r ≠ 0) (h : ∀ b ∈ bs, r.testBit b.log2 = false) {b : Nat} (hb : b ∈ bs) : (clr r b).log2 = b.log2 := by
  unfold clr
  split
  · rename_i q
    have hlt : r.log2 < b.log2 := by
      have h1 := tb_le q
      have h2 : r.log2 ≠ b.log2 := fun z => by
        have := h b hb
        rw [← z, tb_head n] at this
        cases this
      omega
    refine log2_of ?_ fun i hi => ?_
    · rw [Nat.testBit_xor, tb_head (R.pos b hb), h b hb]
      rfl
    · rw [Nat.testBit_xor, tb_above hi, tb_above (by omega)]
      rfl
  · rfl
theorem clr_bit (h : ∀ b ∈ bs, r.testBit b.log2 = false) {b c : Nat} (hb : b ∈ bs) : (clr r c).testBit b.log2 = c.testBit b.log2 := by
  unfold clr
  split
  · rw [Nat.testBit_xor, h b hb, Bool.xor_false]
  · rfl
theorem clr_off (n : r ≠ 0) (c : Nat) : (clr r c).testBit r.log2 = false := by
  unfold clr
  split
  · rename_i q
    rw [Nat.testBit_xor, q, tb_head n]
    rfl
  · rename_i q
    simpa using q
theorem more_red (R : Red bs) (n : r ≠ 0) (h : ∀ b ∈ bs, r.testBit b.log2 = false) : Red (more bs r) := by
  have hd : ∀ x ∈ more bs r, (∃ b ∈ bs, x = clr r b ∧ x.log2 = b.log2) ∨ x = r := fun x hx => by
    rcases List.mem_append.mp hx with z | z
    · obtain ⟨b, hb, rfl⟩ := List.mem_map.mp z
      exact .inl ⟨b, hb, rfl, clr_head R n h hb⟩
    · exact .inr (List.mem_singleton.mp z)
  refine ⟨fun x hx => ?_, fun x hx y hy e => ?_, ?_⟩
  · rcases hd x hx with ⟨b, hb, rfl, el⟩ | rfl
    · intro z
      have := clr_bit h hb (c := b)
      rw [z, Nat.zero_testBit, tb_head (R.pos b hb)] at this
      cases this
    · exact n
  · rcases hd x hx with ⟨b, hb, rfl, el⟩ | rfl
    · rw [el] at e
      rcases hd y hy with ⟨c, hc, rfl, _⟩ | rfl
      · rw [clr_bit h hb] at e
        rw [R.one b hb c hc e]
      · rw [h b hb] at e
        cases e
    · rcases hd y hy with ⟨c, hc, rfl, _⟩ | rfl
      · rw [clr_off n] at e
        cases e
      · rfl
  · unfold more
    rw [List.nodup_append]
    refine ⟨?_, by simp, fun a ha b hb z => ?_⟩
    · rw [List.Nodup, List.pairwise_map]
      refine List.Pairwise.imp_of_mem ?_ R.nd
      intro a b ha hb hab z
      have : a.log2 = b.log2 := by rw [← clr_head R n h ha, ← clr_head R n h hb, z]
      have q := tb_head (R.pos b hb)
      rw [← this] at q
      exact hab (R.one a ha b hb q).symm
    · obtain ⟨c, hc, rfl⟩ := List.mem_map.mp ha
      rw [List.mem_singleton.mp hb] at z
      have q := clr_off n c
      rw [z, tb_head n] at q
      cases q
theorem more_same (w : Nat) (h : Sp bs (r ^^^ w)) : Same (more bs r) (w :: bs) := by
  have hw : Sp (w :: bs) w := sp_mem List.mem_cons_self
  have hr : Sp (w :: bs) r := by
    have := sp_xor (show Sp (w :: bs) (r ^^^ w) from .inl h) hw
    rwa [xor_cancel] at this
  have hb : ∀ b ∈ bs, Sp (w :: bs) b := fun b hb => sp_mem (List.mem_cons_of_mem _ hb)
  have mr : Sp (more bs r) r := sp_mem (List.mem_append_right _ (List.mem_singleton.mpr rfl))
  have mb : ∀ b ∈ bs, Sp (more bs r) b := fun b hb => by
    have hc : Sp (more bs r) (clr r b) := sp_mem (List.mem_append_left _ (List.mem_map.mpr ⟨b, hb, rfl⟩))
    unfold clr at hc
    split at hc
    · have := sp_xor hc mr
      rwa [xor_cancel] at this
    · exact hc
  refine same_of (fun x hx => ?_) fun x hx => ?_
  · rcases List.mem_append.mp hx with z | z
    · obtain ⟨b, hb', rfl⟩ := List.mem_map.mp z
      unfold clr
      split
      · exact sp_xor (hb b hb') hr
      · exact hb b hb'
    · rw [List.mem_singleton.mp z]
      exact hr
  · rcases List.mem_cons.mp hx with rfl | hx
    · have := sp_xor (sp_sub mb h) mr
      rwa [Nat.xor_comm r x, xor_cancel] at this
    · exact mb x hx
end
def insN (x : Nat) : List Nat → List Nat
  | [] => [x]
  | y :: r => if x ≤ y then x :: y :: r else y :: insN x r
def sortN : List Nat → List Nat
  | [] => []
  | x :: r => insN x (sortN r)
theorem insN_perm (x : Nat) : ∀ l : List Nat, (insN x l).Perm (x :: l)
  | [] => .refl _
  | y :: r => by
    unfold insN
    split
    · exact .refl _
    · exact ((insN_perm x r).cons y).trans (.swap x y r)
theorem insN_sorted (x : Nat) : ∀ {l : List Nat}, l.Pairwise (· ≤ ·) → (insN x l).Pairwise (· ≤ ·)
  | [], _ => by simp [insN]
  | y :: r, h => by
    unfold insN
    split
    · rename_i hx
      exact .cons (fun z hz => (List.mem_cons.mp hz).elim (fun q => by rw [q]; exact hx) fun q => Nat.le_trans hx ((List.pairwise_cons.mp h).1 z q)) h
    · rename_i hx
      refine .cons (fun z hz => ?_) (insN_sorted x (List.pairwise_cons.mp h).2)
      rcases List.mem_cons.mp ((insN_perm x r).mem_iff.mp hz) with q | q
      · rw [q]; omega
      · exact (List.pairwise_cons.mp h).1 z q
theorem sortN_perm : ∀ l : List Nat, (sortN l).Perm l
  | [] => .refl _
  | x :: r => (insN_perm x (sortN r)).trans ((sortN_perm r).cons x)
theorem sortN_sorted : ∀ l : List Nat, (sortN l).Pairwise (· ≤ ·)
  | [] => .nil
  | x :: r => insN_sorted x (sortN_sorted r)
def desc (l : List Nat) : List Nat := (sortN l).reverse
theorem desc_perm (l : List Nat) : (desc l).Perm l := (List.reverse_perm _).trans (sortN_perm l)
theorem desc_sorted {l : List Nat} (nd : l.Nodup) : (desc l).Pairwise (· > ·) := by
  unfold desc
  rw [List.pairwise_reverse]
  have h := sortN_sorted l
  have n : (sortN l).Nodup := (sortN_perm l).nodup_iff.mpr nd
  refine List.Pairwise.imp ?_ (h.and n)
  intro a b ⟨h1, h2⟩
  show a < b
  omega
theorem Red.perm {bs cs : List Nat} (R : Red bs) (p : cs.Perm bs) : Red cs :=
  ⟨fun b hb => R.pos b (p.mem_iff.mp hb), fun b hb c hc => R.one b (p.mem_iff.mp hb) c (p.mem_iff.mp hc), p.nodup_iff.mpr R.nd⟩
theorem same_perm {bs cs : List Nat} (p : cs.Perm bs) : Same cs bs := same_of (fun w hw => sp_mem (p.mem_iff.mp hw)) fun w hw => sp_mem (p.mem_iff.mpr hw)
def withW (bs : List Nat) (w : Nat) : List Nat := if rem bs w = 0 then bs else desc (more bs (rem bs w))
structure Bas (bs : List Nat) : Prop where
  red : Red bs
  ord : bs.Pairwise (· > ·)
theorem bas_nil : Bas [] := ⟨⟨fun _ h => (nomatch h), fun _ h => (nomatch h), List.nodup_nil⟩, List.Pairwise.nil⟩
theorem withW_bas {bs : List Nat} (B : Bas bs) (w : Nat) : Bas (withW bs w) ∧ Same (withW bs w) (w :: bs) := by
  unfold withW
  split
  · rename_i h
    refine ⟨B, same_of (fun x hx => sp_mem (List.mem_cons_of_mem _ hx)) fun x hx => ?_⟩
    rcases List.mem_cons.mp hx with rfl | hx
    · exact (rem_zero B.red x).mp h
    · exact sp_mem hx
  · rename_i h
    have M := more_red B.red h (rem_head B.red w)
    exact ⟨⟨M.perm (desc_perm _), desc_sorted M.nd⟩, (same_perm (desc_perm _)).trans (more_same w (rem_sp bs w))⟩
def basisF (bs ws : List Nat) : List Nat := ws.foldl withW bs
theorem basisF_ok : ∀ (ws : List Nat) {bs : List Nat}, Bas bs → Bas (basisF bs ws) ∧ Same (basisF bs ws) (ws ++ bs)
  | [], bs, B => ⟨B, Same.refl bs⟩
  | w :: ws, bs, B => by
    obtain ⟨B1, S1⟩ := withW_bas B w
    obtain ⟨B2, S2⟩ := basisF_ok ws B1
    refine ⟨B2, S2.trans (same_of (fun x hx => ?_) fun x hx => ?_)⟩
    · rcases List.mem_append.mp hx with z | z
      · exact sp_mem (List.mem_append_left _ (List.mem_cons_of_mem _ z))
      · refine sp_sub (fun y hy => ?_) ((S1 x).mp (sp_mem z))
        rcases List.mem_cons.mp hy with rfl | hy
        · exact sp_mem (List.mem_append_left _ List.mem_cons_self)
        · exact sp_mem (List.mem_append_right _ hy)
    · have inn : ∀ y, Sp (w :: bs) y → Sp (ws ++ withW bs w) y := fun y hy => sp_sub (fun z hz => sp_mem (List.mem_append_right _ hz)) ((S1 y).mpr hy)
      rcases List.mem_append.mp hx with z | z
      · rcases List.mem_cons.mp z with rfl | z
        · exact inn _ (sp_mem List.mem_cons_self)
        · exact sp_mem (List.mem_append_left _ z)
      · exact inn _ (sp_mem (List.mem_cons_of_mem _ z))
def basis (ws : List Nat) : List Nat := basisF [] ws
theorem basis_bas (ws : List Nat) : Bas (basis ws) := (basisF_ok ws bas_nil).1
theorem basis_same (ws : List Nat) : Same (basis ws) ws := by
  have := (basisF_ok ws bas_nil).2
  rwa [List.append_nil] at this
theorem basis_eq {bs ws : List Nat} (B : Bas bs) (S : Same bs ws) : bs = basis ws := red_unique B.red (basis_bas ws).red (S.trans (basis_same ws).symm) B.ord (basis_bas ws).ord
theorem basis_congr {ws us : List Nat} (S : Same ws us) : basis ws = basis us := basis_eq (basis_bas ws) ((basis_same ws).trans S)
theorem sp_lt {ws : List Nat} {v k : Nat} (h : ∀ w ∈ ws, w < 2 ^ k) (g : Sp ws v) : v < 2 ^ k := by
  apply Nat.lt_pow_two_of_testBit
  intro i hi
  refine sp_bit (fun w hw => ?_) g
  exact Nat.testBit_lt_two_pow (Nat.lt_of_lt_of_le (h w hw) (Nat.pow_le_pow_right (by decide) hi))
theorem desc_len : ∀ {bs : List Nat} {m : Nat}, bs.Pairwise (· > ·) → (∀ b ∈ bs, 0 < b ∧ b < m) → bs.length + 1 ≤ m ∨ bs = []
  | [], _, _, _ => .inr rfl
  | b :: bs, m, p, h => by
    left
    obtain ⟨h1, h2⟩ := h b List.mem_cons_self
    rcases desc_len (m := b) (List.pairwise_cons.mp p).2 (fun c hc => ⟨(h c (List.mem_cons_of_mem _ hc)).1, (List.pairwise_cons.mp p).1 c hc⟩) with z | z
    · rw [List.length_cons]; omega
    · subst z
      simp
      omega
structure BasN (k : Nat) (bs : List Nat) : Prop where
  bas : Bas bs
  lt : ∀ b ∈ bs, b < 2 ^ k
theorem BasN.len {k : Nat} {bs : List Nat} (B : BasN k bs) : bs.length + 1 ≤ 2 ^ k := by
  rcases desc_len (m := 2 ^ k) B.bas.ord (fun b hb => ⟨Nat.pos_of_ne_zero (B.bas.red.pos b hb), B.lt b hb⟩) with z | z
  · exact z
  · subst z
    exact Nat.one_le_two_pow
theorem BasN.more {k : Nat} {bs : List Nat} (B : BasN k bs) {w : Nat} (hw : w < 2 ^ k) : BasN k (withW bs w) := by
  obtain ⟨B1, S1⟩ := withW_bas B.bas w
  refine ⟨B1, fun b hb => sp_lt (ws := w :: bs) (fun x hx => ?_) ((S1 b).mp (sp_mem hb))⟩
  rcases List.mem_cons.mp hx with rfl | hx
  · exact hw
  · exact B.lt x hx
theorem basN_nil (k : Nat) : BasN k [] := ⟨bas_nil, fun _ h => (nomatch h)⟩
theorem basN (k : Nat) {ws : List Nat} (h : ∀ w ∈ ws, w < 2 ^ k) : BasN k (basis ws) := ⟨basis_bas ws, fun b hb => sp_lt h ((basis_same ws b).mp (sp_mem hb))⟩
end Gf
set_option Elab.async false
set_option linter.all false
set_option maxRecDepth 100000
set_option maxHeartbeats 1000000
namespace Law
open Mi Gf
theorem run_eq {G : GT} {ft : Nat → Option FD} {n f : Nat} {d : FD} {args : List Vl} {h : Hh} (e : ft f = some d) (hl : args.length = d.ar) :
    run G ft (n + 1) f args h = endF d.frz h.length (evS G (run G ft n) d.body (args.map some ++ List.replicate (d.sl - d.ar) none) h) := by
  show (match ft f with
    | some d => match decide (args.length = d.ar) with
      | true => endF d.frz h.length (evS G (run G ft n) d.body (args.map some ++ List.replicate (d.sl - d.ar) none) h)
      | false => .bad
    | none => .bad) = _
  rw [e]
  dsimp only
  rw [decide_eq_true hl]
theorem end_ret {frz : Bool} {n0 : Nat} {v : Vl} {h : Hh} (e : h.length ≤ n0) : endF frz n0 (.ok (.rt v) h) = .ok v h := by
  unfold endF fin
  cases frz with
  | false => rfl
  | true =>
    dsimp only
    rw [decide_eq_true e]
theorem end_nx {frz : Bool} {n0 : Nat} {env : Env} {h : Hh} (e : h.length ≤ n0) : endF frz n0 (.ok (.nx env) h) = .ok .non h := by
  unfold endF fin
  cases frz with
  | false => rfl
  | true =>
    dsimp only
    rw [decide_eq_true e]
theorem part1 {G : GT} {cf : CF} {env : Env} {h : Hh} : evO G cf (.sm (.int 1)) env h = .ok (some 1) h := rfl
theorem part0 {G : GT} {cf : CF} {env : Env} {h : Hh} : evO G cf .noe env h = .ok none h := rfl
theorem natOf_coe (w : Nat) : natOf (w : Int) = some w := rfl
theorem bnd_ok' {α β : Type} (a : α) (h : Hh) (f : α → Hh → R β) : bnd (.ok a h) f = f a h := rfl
theorem lift_some {α : Type} (a : α) (h : Hh) : lift (some a) h = .ok a h := rfl
theorem bndS_nx (env : Env) (h : Hh) (f : Env → Hh → R Oc) : bndS (.ok (.nx env) h) f = f env h := rfl
theorem bndS_rt (v : Vl) (h : Hh) (f : Env → Hh → R Oc) : bndS (.ok (.rt v) h) f = .ok (.rt v) h := rfl
theorem run_ret {G : GT} {ft : Nat → Option FD} {n f : Nat} {d : FD} {args : List Vl} {h : Hh} {v : Vl} (e : ft f = some d) (hl : args.length = d.ar)
    (hv : evS G (run G ft n) d.body (args.map some ++ List.replicate (d.sl - d.ar) none) h = .ok (.rt v) h) : run G ft (n + 1) f args h = .ok v h := by
  rw [run_eq e hl, hv]
  exact end_ret (Nat.le_refl _)
theorem run_nx {G : GT} {ft : Nat → Option FD} {n f : Nat} {d : FD} {args : List Vl} {h : Hh} {env : Env} (e : ft f = some d) (hl : args.length = d.ar)
    (hv : evS G (run G ft n) d.body (args.map some ++ List.replicate (d.sl - d.ar) none) h = .ok (.nx env) h) : run G ft (n + 1) f args h = .ok .non h := by
  rw [run_eq e hl, hv]
  exact end_nx (Nat.le_refl _)
theorem forL_fold {α σ : Type} {turn : Vl → Env → Hh → R Oc} {g : α → Vl} {E : σ → Env} {step : σ → α → σ} {h : Hh} : ∀ {xs : List α} {s : σ}, (∀ x ∈ xs, ∀ s, turn (g x) (E s) h = .ok (.nx (E (step s x))) h) → forL turn (xs.map g) (E s) h = .ok (.nx (E (xs.foldl step s))) h
  | [], s, _ => rfl
  | x :: xs, s, k => by
    show (match turn (g x) (E s) h with
      | .ok (.nx env1) h1 => forL turn (xs.map g) env1 h1
      | .ok (.ct env1) h1 => forL turn (xs.map g) env1 h1
      | .ok (.bk env1) h1 => .ok (.nx env1) h1
      | .ok (.rt v) h1 => .ok (.rt v) h1
      | .exc c p h1 => .exc c p h1
      | .bad => .bad) = _
    rw [k x List.mem_cons_self s]
    exact forL_fold fun y hy => k y (List.mem_cons_of_mem _ hy)
theorem forL_inv {α σ : Type} {turn : Vl → Env → Hh → R Oc} {g : α → Vl} {E : σ → Env} {step : σ → α → σ} {I : σ → Prop} {h : Hh} : ∀ {xs : List α} {s : σ}, I s → (∀ x ∈ xs, ∀ s, I s → turn (g x) (E s) h = .ok (.nx (E (step s x))) h ∧ I (step s x)) → forL turn (xs.map g) (E s) h = .ok (.nx (E (xs.foldl step s))) h
  | [], s, _, _ => rfl
  | x :: xs, s, i, k => by
    show (match turn (g x) (E s) h with
      | .ok (.nx env1) h1 => forL turn (xs.map g) env1 h1
      | .ok (.ct env1) h1 => forL turn (xs.map g) env1 h1
      | .ok (.bk env1) h1 => .ok (.nx env1) h1
      | .ok (.rt v) h1 => .ok (.rt v) h1
      | .exc c p h1 => .exc c p h1
      | .bad => .bad) = _
    obtain ⟨k1, k2⟩ := k x List.mem_cons_self s i
    rw [k1]
    exact forL_inv k2 fun y hy => k y (List.mem_cons_of_mem _ hy)
theorem forL_f {α σ : Type} {turn : Vl → Env → Hh → R Oc} {g : α → Vl} {h : Hh} {xs : List α} {env : Env} (E : σ → Env) (step : σ → α → σ) (s : σ) (he : env = E s) (k : ∀ x ∈ xs, ∀ s, turn (g x) (E s) h = .ok (.nx (E (step s x))) h) : forL turn (xs.map g) env h = .ok (.nx (E (xs.foldl step s))) h := by
  subst he
  exact forL_fold k
theorem forL_i {α σ : Type} {turn : Vl → Env → Hh → R Oc} {g : α → Vl} {h : Hh} {xs : List α} {env : Env} (E : σ → Env) (step : σ → α → σ) (I : σ → Prop) (s : σ) (he : env = E s) (i : I s) (k : ∀ x ∈ xs, ∀ s, I s → turn (g x) (E s) h = .ok (.nx (E (step s x))) h ∧ I (step s x)) : forL turn (xs.map g) env h = .ok (.nx (E (xs.foldl step s))) h := by
  subst he
  exact forL_inv i k
theorem compL_filter {α : Type} {turn : Vl → Hh → R (Option Vl)} {g k : α → Vl} {p : α → Bool} {h : Hh} : ∀ {xs : List α} {acc : List Vl}, acc.length + xs.length ≤ line → (∀ x ∈ xs, turn (g x) h = .ok (if p x then some (k x) else none) h) → compL turn (xs.map g) acc h = .ok (acc ++ (xs.filter p).map k) h
  | [], acc, _, _ => by simp [compL]
  | x :: xs, acc, hl, q => by
    rw [List.map_cons]
    unfold compL
    rw [q x List.mem_cons_self]
    rw [List.length_cons] at hl
    cases hp : p x with
    | true =>
      simp only [if_true, noX, bnd_ok']
      rw [if_pos (by omega), compL_filter (by rw [List.length_append, List.length_singleton]; omega) fun y hy => q y (List.mem_cons_of_mem _ hy), List.filter_cons_of_pos hp, List.map_cons, List.append_assoc]
      rfl
    | false =>
      simp only [Bool.false_eq_true, if_false, noX, bnd_ok']
      rw [compL_filter (by omega) fun y hy => q y (List.mem_cons_of_mem _ hy), List.filter_cons_of_neg (by rw [hp]; exact Bool.false_ne_true)]
theorem compL_map {α : Type} {turn : Vl → Hh → R (Option Vl)} {g k : α → Vl} {h : Hh} {xs : List α} {acc : List Vl} (hl : acc.length + xs.length ≤ line) (q : ∀ x ∈ xs, turn (g x) h = .ok (some (k x)) h) : compL turn (xs.map g) acc h = .ok (acc ++ xs.map k) h := by
  have := compL_filter (p := fun _ => true) hl q
  rwa [List.filter_eq_self.mpr (fun _ _ => rfl)] at this
def iv (w : Nat) : Vl := .int w
section
variable {h : Hh}
theorem iv_xor (a b : Nat) : binV .xor h (iv a) (iv b) = some (iv (a ^^^ b)) := rfl
theorem iv_and (a b : Nat) : binV .and h (iv a) (iv b) = some (iv (a &&& b)) := rfl
theorem iv_add (a b : Nat) : binV .add h (iv a) (iv b) = some (iv (a + b)) := rfl
theorem iv_axor (a b : Nat) : augV .xor h (iv a) (iv b) = some (iv (a ^^^ b)) := rfl
theorem iv_aadd (a b : Nat) : augV .add h (iv a) (iv b) = some (iv (a + b)) := rfl
theorem iv_eq (a b : Nat) : cmpV .eq h (iv a) (iv b) = some (decide (a = b)) := by
  show some ((a : Int) == (b : Int)) = _
  congr 1
  by_cases e : a = b
  · subst e; simp
  · rw [decide_eq_false e, beq_eq_false_iff_ne]; omega
theorem iv_ne (a b : Nat) : cmpV .ne h (iv a) (iv b) = some (!decide (a = b)) := by
  have := iv_eq (h := h) a b
  show (match cmpV .eq h (iv a) (iv b) with | some b => some (!b) | none => none) = _
  rw [this]
theorem iv_lt (a b : Nat) : cmpV .lt h (iv a) (iv b) = some (decide (a < b)) := by
  show some (decide ((a : Int) < b)) = _
  simp
theorem iv_gt (a b : Nat) : cmpV .gt h (iv a) (iv b) = some (decide (b < a)) := by
  show some (decide ((b : Int) < a)) = _
  simp
theorem iv_le (a b : Nat) : cmpV .le h (iv a) (iv b) = some (decide (a ≤ b)) := by
  show some (decide ((a : Int) ≤ b)) = _
  simp
theorem tru_bl (b : Bool) : truth h (.bl b) = some b := rfl
theorem int_iv (k : Nat) : Vl.int (OfNat.ofNat k) = iv k := rfl
theorem int0 : Vl.int 0 = iv 0 := rfl
theorem int1 : Vl.int 1 = iv 1 := rfl
theorem int2 : Vl.int 2 = iv 2 := rfl
end
theorem range_iv : ∀ (n a : Nat), rangeL n a 1 = (List.range' a n).map iv
  | 0, _ => rfl
  | n + 1, a => by
    show Vl.int a :: rangeL n ((a : Int) + 1) 1 = _
    rw [List.range'_succ, List.map_cons, show ((a : Int) + 1) = ((a + 1 : Nat) : Int) from rfl, range_iv n]
    rfl
theorem range_iv0 (n : Nat) : rangeL n 0 1 = (List.range n).map iv := by
  rw [List.range_eq_range']
  exact range_iv n 0
theorem ints_iv : ∀ ws : List Nat, intsOf (ws.map iv) = some (ws.map (fun w : Nat => (w : Int)))
  | [] => rfl
  | w :: ws => by
    show (match intsOf (ws.map iv) with | some l => some ((w : Int) :: l) | none => none) = _
    rw [ints_iv ws]
    rfl
theorem line_big : 100000 ≤ line := by decide
section
variable {n : Nat} {h : Hh}
theorem r0 (i : Int) : run GG FF (n + 1) 0 [.int i] h = .ok (.bl true) h := by
  rw [run_eq (d := f0) rfl rfl]
  exact end_ret (Nat.le_refl _)
theorem r1 (i a b : Int) : run GG FF (n + 2) 1 [.int i, .int a, .int b] h = .ok (.bl (decide (a ≤ i ∧ i ≤ b))) h := by
  rw [run_eq (d := f1) rfl rfl]
  have e : evS GG (run GG FF (n + 1)) f1.body [some (.int i), some (.int a), some (.int b)] h = .ok (.rt (.bl (decide (a ≤ i ∧ i ≤ b)))) h := by
    simp only [f1, evS, evE, evA, List.getElem?_cons_zero, List.getElem?_cons_succ, bnd_ok', r0, cmpV]
    by_cases h1 : a ≤ i
    · simp only [h1, decide_true, true_and, bnd_ok']
    · simp only [h1, decide_false, false_and, bnd_ok']
  rw [show (List.map some [Vl.int i, Vl.int a, Vl.int b] ++ List.replicate (f1.sl - f1.ar) none) = [some (.int i), some (.int a), some (.int b)] from rfl, e]
  exact end_ret (Nat.le_refl _)
theorem shl1 {l : Nat} (hl : l ≤ 1000) : binI .shl 1 (l : Int) = some ((2 ^ l : Nat) : Int) := by
  unfold binI
  rw [natOf_coe]
  dsimp only
  have h1 : (1 : Int).natAbs.log2 = 0 := by decide
  rw [h1, if_pos (by omega), Int.one_mul]
  rfl
theorem r2 (l : Nat) (hl : l ≤ 1000) (i : Int) : run GG FF (n + 2) 2 [.int l, .int i] h = .ok (.bl (decide (0 ≤ i ∧ i < (2 ^ l : Nat)))) h := by
  refine run_ret (d := f2) rfl rfl ?_
  show evS GG (run GG FF (n + 1)) f2.body [some (.int l), some (.int i)] h = _
  simp only [f2, evS, evE, evA, List.getElem?_cons_zero, List.getElem?_cons_succ, bnd_ok', r0, cmpV, binV, shl1 hl, lift_some]
  by_cases h1 : 0 ≤ i
  · simp only [h1, decide_true, true_and, bnd_ok']
  · simp only [h1, decide_false, false_and, bnd_ok']
theorem r2w (l : Nat) (hl : l ≤ 1000) (w : Nat) (hw : w < 2 ^ l) : run GG FF (n + 2) 2 [.int l, iv w] h = .ok (.bl true) h := by
  unfold iv
  rw [r2 l hl, decide_eq_true ⟨by omega, by omega⟩]
theorem bls_true (p : List Nat) : blsOf (p.map fun _ => Vl.bl true) = some (p.map fun _ => true) := by
  induction p with
  | nil => rfl
  | cons x p ih =>
    show (match blsOf (p.map fun _ => Vl.bl true) with | some l => some (true :: l) | none => none) = _
    rw [ih]
    rfl
theorem shrN (w p : Nat) : binI .shr (w : Int) (p : Int) = some ((w / 2 ^ p : Nat) : Int) := by
  unfold binI
  rw [natOf_coe]
  dsimp only
  rw [Int.natCast_ediv, Int.natCast_pow]
  rfl
theorem andN (a b : Nat) : binI .and (a : Int) (b : Int) = some ((a &&& b : Nat) : Int) := rfl
theorem xorN (a b : Nat) : binI .xor (a : Int) (b : Int) = some ((a ^^^ b : Nat) : Int) := rfl
theorem addN (a b : Nat) : binI .add (a : Int) (b : Int) = some ((a + b : Nat) : Int) := rfl
theorem subN {a b : Nat} (h : b ≤ a) : binI .sub (a : Int) (b : Int) = some ((a - b : Nat) : Int) := by
  show some ((a : Int) - b) = _
  rw [Int.ofNat_sub h]
theorem modN {a b : Nat} (h : 0 < b) : binI .mod (a : Int) (b : Int) = some ((a % b : Nat) : Int) := by
  show (if (0 : Int) < (b : Int) then some ((a : Int) % b) else none) = _
  rw [if_pos (by omega)]
  rfl
def wt1 (w : Nat) : Nat := w - ((w / 2) &&& 5592405)
def wt2 (v : Nat) : Nat := (v &&& 3355443) + ((v / 4) &&& 3355443)
def wt (w : Nat) : Nat := ((wt2 (wt1 w) + wt2 (wt1 w) / 16) &&& 986895) % 255
theorem r5 (w : Nat) : run GG FF (n + 1) 4 [iv w] h = .ok (iv (wt w)) h := by
  refine run_ret (d := f4) rfl rfl ?_
  show evS GG (run GG FF n) f4.body [some (iv w), none, none] h = _
  have hle : (w / 2) &&& 5592405 ≤ w := Nat.le_trans Nat.and_le_left (Nat.div_le_self _ _)
  have e1 := shrN w 1
  have e2 := andN (w / 2 ^ 1) 5592405
  have e3 := subN hle
  have e4 := andN (wt1 w) 3355443
  have e5 := shrN (wt1 w) 2
  have e6 := andN (wt1 w / 2 ^ 2) 3355443
  have e7 := addN (wt1 w &&& 3355443) ((wt1 w / 2 ^ 2) &&& 3355443)
  have e8 := shrN (wt2 (wt1 w)) 4
  have e9 := addN (wt2 (wt1 w)) (wt2 (wt1 w) / 2 ^ 4)
  have e10 := andN (wt2 (wt1 w) + wt2 (wt1 w) / 2 ^ 4) 986895
  have e11 := modN (a := (wt2 (wt1 w) + wt2 (wt1 w) / 2 ^ 4) &&& 986895) (b := 255) (by decide)
  unfold iv
  simp only [f4, evS, evE, List.getElem?_cons_zero, List.getElem?_cons_succ, bnd_ok', binV, lift_some, bndS_nx, putE, List.set_cons_zero, List.set_cons_succ]
  erw [e1]
  simp only [lift_some, bnd_ok']
  erw [e2]
  simp only [lift_some, bnd_ok']
  erw [e3]
  simp only [lift_some, bnd_ok', bndS_nx, List.set_cons_zero, List.set_cons_succ, List.getElem?_cons_zero, List.getElem?_cons_succ]
  erw [e4]
  simp only [lift_some, bnd_ok']
  erw [e5]
  simp only [lift_some, bnd_ok']
  erw [e6]
  simp only [lift_some, bnd_ok']
  erw [e7]
  simp only [lift_some, bnd_ok', bndS_nx, List.set_cons_zero, List.set_cons_succ, List.getElem?_cons_zero, List.getElem?_cons_succ]
  erw [e8]
  simp only [lift_some, bnd_ok']
  erw [e9]
  simp only [lift_some, bnd_ok']
  erw [e10]
  simp only [lift_some, bnd_ok']
  erw [e11]
  rfl
theorem r7 (w : Nat) (hw : w ≠ 0) : run GG FF (n + 1) 6 [iv w] h = .ok (iv w.log2) h := by
  refine run_ret (d := f6) rfl rfl ?_
  show evS GG (run GG FF n) f6.body [some (iv w)] h = _
  unfold iv
  have hz : ¬ ((w : Int) = 0) := by omega
  simp only [f6, evS, evE, evA, List.getElem?_cons_zero, bnd_ok', rcv, mthV, bitsV, hz, if_false, Int.natAbs_natCast, binV]
  erw [subN (a := w.log2 + 1) (b := 1) (by omega)]
  rfl
theorem r8 (w p : Nat) : run GG FF (n + 1) 7 [iv w, iv p] h = .ok (.bl (w.testBit p)) h := by
  refine run_ret (d := f7) rfl rfl ?_
  show evS GG (run GG FF n) f7.body [some (iv w), some (iv p)] h = _
  unfold iv
  simp only [f7, evS, evE, evA, List.getElem?_cons_zero, List.getElem?_cons_succ, bnd_ok', binV, shrN, lift_some]
  erw [andN (w / 2 ^ p) 1]
  simp only [lift_some, bnd_ok', cmpV, pyEq, deref, pl, eqV]
  have e : (((((w / 2 ^ p) &&& 1 : Nat) : Int)) == 1) = w.testBit p := by
    rw [Nat.and_one_is_mod, Nat.testBit_eq_decide_div_mod_eq]
    cases Nat.mod_two_eq_zero_or_one (w / 2 ^ p) with
    | inl z => rw [z]; rfl
    | inr z => rw [z]; rfl
  rw [e]
def bits (w : Nat) : Nat := if w = 0 then 0 else w.log2 + 1
theorem bits_iv (w : Nat) : bitsV h (iv w) = .ok (iv (bits w)) h := by
  unfold bitsV iv bits
  by_cases hz : w = 0
  · subst hz
    rfl
  · have : ¬ ((w : Int) = 0) := by omega
    dsimp only
    rw [if_neg this, if_neg hz]
    rfl
def plcs (w : Nat) : List Nat := (List.range (bits w)).filter fun p => w.testBit p
theorem sumI_iv : ∀ l : List Nat, sumI (l.map (fun w : Nat => (w : Int))) = ((l.sum : Nat) : Int)
  | [] => rfl
  | x :: r => by
    show (x : Int) + sumI (r.map (fun w : Nat => (w : Int))) = _
    rw [sumI_iv r, List.sum_cons]
    rfl
theorem r10 (ps : List Nat) (hp : ∀ p ∈ ps, p ≤ 1000) (hl : ps.length ≤ 1000) : run GG FF (n + 1) 8 [.tup (ps.map iv)] h = .ok (iv (ps.map (2 ^ ·)).sum) h := by
  refine run_ret (d := f8) rfl rfl ?_
  show evS GG (run GG FF n) f8.body [some (.tup (ps.map iv)), none] h = _
  simp only [f8, evS, evE, evA, evF, evW, evC, List.getElem?_cons_zero, List.getElem?_cons_succ, bnd_ok', lift_some, walkC]
  rw [compL_map (k := fun p => iv (2 ^ p)) (by have := line_big; simp; omega) ?_]
  · have e : ps.map (fun p => iv (2 ^ p)) = (ps.map (2 ^ ·)).map iv := by rw [List.map_map]; rfl
    simp only [bnd_ok', List.nil_append, bifV, arg1, sumV, ofInts, lstOf, e, ints_iv, sumI_iv, lift_some]
    rfl
  · intro p hp'
    simp only [tgV, wipeE, putE, List.set_cons_zero, List.set_cons_succ, List.getElem?_cons_zero, List.getElem?_cons_succ, bnd_ok', iv, binV, shl1 (hp p hp'), lift_some]
theorem r11 (bs : List Nat) (hb : ∀ b ∈ bs, b ≠ 0) (w : Nat) : run GG FF (n + 2) 9 [.tup (bs.map iv), iv w] h = .ok (iv (rem bs w)) h := by
  refine run_ret (d := f9) rfl rfl ?_
  show evS GG (run GG FF (n + 1)) f9.body [some (.tup (bs.map iv)), some (iv w), none] h = _
  simp only [f9, evS, evE, evA, evF, evW, evC, List.getElem?_cons_zero, List.getElem?_cons_succ, bnd_ok', lift_some, walkF]
  rw [forL_f (fun s : Nat × Option Vl => [some (.tup (bs.map iv)), some (iv s.1), s.2]) (fun s b => (if s.1.testBit b.log2 then s.1 ^^^ b else s.1, some (iv b))) (w, none) rfl ?_]
  · have f : ∀ (l : List Nat) (s : Nat × Option Vl), (l.foldl (fun s b => (if s.1.testBit b.log2 then s.1 ^^^ b else s.1, some (iv b))) s).1 = rem l s.1 := by
      intro l
      induction l with
      | nil => intro s; rfl
      | cons b l ih => intro s; exact ih _
    simp only [bndS_nx, List.getElem?_cons_zero, List.getElem?_cons_succ, bnd_ok', f]
  · intro b hb' s
    simp only [tgV, putE, List.set_cons_zero, List.set_cons_succ, List.getElem?_cons_zero, List.getElem?_cons_succ, bnd_ok', r7 b (hb b hb'), r8]
    cases hs : s.1.testBit b.log2 with
    | true => simp only [truth, iv, augV, xorN, if_true]
    | false => simp only [truth, Bool.false_eq_true, if_false]
theorem sortI_iv : ∀ l : List Nat, sortI (l.map (fun w : Nat => (w : Int))) = (sortN l).map (fun w : Nat => (w : Int))
  | [] => rfl
  | x :: r => by
    have ins : ∀ (x : Nat) (l : List Nat), insI (x : Int) (l.map (fun w : Nat => (w : Int))) = (insN x l).map (fun w : Nat => (w : Int)) := by
      intro x l
      induction l with
      | nil => rfl
      | cons y l ih =>
        rw [List.map_cons]
        unfold insI insN
        by_cases hxy : x ≤ y
        · rw [if_pos hxy, if_pos (by omega)]
          rfl
        · rw [if_neg hxy, if_neg (by omega), ih]
          rfl
    show insI (x : Int) (sortI (r.map (fun w : Nat => (w : Int)))) = _
    rw [sortI_iv r, ins]
    rfl
theorem srt_desc (l : List Nat) : ((sortI (l.map (fun w : Nat => (w : Int)))).reverse.map Vl.int) = (desc l).map iv := by
  rw [sortI_iv]
  unfold desc
  rw [List.map_reverse, List.map_reverse, List.map_map]
  rfl
theorem srt_asc (l : List Nat) : ((sortI (l.map (fun w : Nat => (w : Int)))).map Vl.int) = (sortN l).map iv := by
  rw [sortI_iv, List.map_map]
  rfl
theorem r12 (bs : List Nat) (hb : ∀ b ∈ bs, b ≠ 0) (hl : bs.length + 1 ≤ line) (w : Nat) : run GG FF (n + 3) 10 [.tup (bs.map iv), iv w] h = .ok (.tup ((withW bs w).map iv)) h := by
  refine run_ret (d := f10) rfl rfl ?_
  show evS GG (run GG FF (n + 2)) f10.body [some (.tup (bs.map iv)), some (iv w), none, none, none] h = _
  simp only [f10, evS, evE, evA, evF, evW, part1, part0, evC, List.getElem?_cons_zero, List.getElem?_cons_succ, putE, List.set_cons_zero, List.set_cons_succ, tgV, putEs, wipeE, walkC, walkF, bnd_ok', lift_some, bndS_nx, bndS_rt, iv_xor, iv_and, iv_add, iv_axor, iv_aadd, iv_eq, iv_ne, iv_lt, iv_gt, iv_le, tru_bl, int0, int1, int2, r11 bs hb]
  unfold withW
  by_cases hz : rem bs w = 0
  · rw [if_pos hz, decide_eq_true hz]
    simp only [evS, evE, evA, evF, evW, part1, part0, evC, List.getElem?_cons_zero, List.getElem?_cons_succ, putE, List.set_cons_zero, List.set_cons_succ, tgV, putEs, wipeE, walkC, walkF, bnd_ok', lift_some, bndS_nx, bndS_rt, iv_xor, iv_and, iv_add, iv_axor, iv_aadd, iv_eq, iv_ne, iv_lt, iv_gt, iv_le, tru_bl, int0, int1, int2]
  · rw [if_neg hz, decide_eq_false hz]
    simp only [evS, evE, evA, evF, evW, part1, part0, evC, List.getElem?_cons_zero, List.getElem?_cons_succ, putE, List.set_cons_zero, List.set_cons_succ, tgV, putEs, wipeE, walkC, walkF, bnd_ok', lift_some, bndS_nx, bndS_rt, iv_xor, iv_and, iv_add, iv_axor, iv_aadd, iv_eq, iv_ne, iv_lt, iv_gt, iv_le, tru_bl, int0, int1, int2, r7 (rem bs w) hz]
    rw [compL_map (k := fun b => iv (clr (rem bs w) b)) (by have := line_big; simp; omega) ?_]
    · have e2 : bs.map (fun b => iv (clr (rem bs w) b)) = (bs.map (clr (rem bs w))).map iv := by rw [List.map_map]; rfl
      have e3 : (bs.map (clr (rem bs w))).map iv ++ [iv (rem bs w)] = (more bs (rem bs w)).map iv := by
        unfold more
        rw [List.map_append]
        rfl
      have hlen : ((bs.map (clr (rem bs w))).map iv).length + [iv (rem bs w)].length ≤ line := by
        have := line_big
        simp
        omega
      have h1 : decide ([iv (rem bs w)].length ≤ line) = true := decide_eq_true (by show 1 ≤ line; decide)
      simp only [evS, evE, evA, evF, evW, part1, part0, evC, List.getElem?_cons_zero, List.getElem?_cons_succ, putE, List.set_cons_zero, List.set_cons_succ, tgV, putEs, wipeE, walkC, walkF, bnd_ok', lift_some, bndS_nx, bndS_rt, iv_xor, iv_and, iv_add, iv_axor, iv_aadd, iv_eq, iv_ne, iv_lt, iv_gt, iv_le, tru_bl, int0, int1, int2, List.nil_append, e2, h1, catV, lstOf, if_pos hlen, e3, ints_iv, srt_desc, bifV, arg1, tupleV, seqOf]
    · intro b hb'
      simp only [evS, evE, evA, evF, evW, part1, part0, evC, List.getElem?_cons_zero, List.getElem?_cons_succ, putE, List.set_cons_zero, List.set_cons_succ, tgV, putEs, wipeE, walkC, walkF, bnd_ok', lift_some, bndS_nx, bndS_rt, iv_xor, iv_and, iv_add, iv_axor, iv_aadd, iv_eq, iv_ne, iv_lt, iv_gt, iv_le, tru_bl, int0, int1, int2, r8]
      unfold clr
      cases hs : b.testBit (rem bs w).log2 with
      | true => simp only [evS, evE, evA, evF, evW, part1, part0, evC, List.getElem?_cons_zero, List.getElem?_cons_succ, putE, List.set_cons_zero, List.set_cons_succ, tgV, putEs, wipeE, walkC, walkF, bnd_ok', lift_some, bndS_nx, bndS_rt, iv_xor, iv_and, iv_add, iv_axor, iv_aadd, iv_eq, iv_ne, iv_lt, iv_gt, iv_le, tru_bl, int0, int1, int2, if_true]
      | false => simp only [evS, evE, evA, evF, evW, part1, part0, evC, List.getElem?_cons_zero, List.getElem?_cons_succ, putE, List.set_cons_zero, List.set_cons_succ, tgV, putEs, wipeE, walkC, walkF, bnd_ok', lift_some, bndS_nx, bndS_rt, iv_xor, iv_and, iv_add, iv_axor, iv_aadd, iv_eq, iv_ne, iv_lt, iv_gt, iv_le, tru_bl, int0, int1, int2, Bool.false_eq_true, if_false]
theorem line_pow : line = 2 ^ 24 := by decide
theorem r13 (ws : List Nat) (hw : ∀ w ∈ ws, w < 2 ^ 24) : run GG FF (n + 4) 11 [.tup (ws.map iv)] h = .ok (.tup ((basis ws).map iv)) h := by
  refine run_ret (d := f11) rfl rfl ?_
  show evS GG (run GG FF (n + 3)) f11.body [some (.tup (ws.map iv)), none, none] h = _
  have h0 : decide (([] : List Vl).length ≤ line) = true := by decide
  simp only [f11, evS, evE, evA, evF, evW, part1, part0, evC, List.getElem?_cons_zero, List.getElem?_cons_succ, putE, List.set_cons_zero, List.set_cons_succ, tgV, putEs, wipeE, walkC, walkF, bnd_ok', lift_some, bndS_nx, bndS_rt, iv_xor, iv_and, iv_add, iv_axor, iv_aadd, iv_eq, iv_ne, iv_lt, iv_gt, iv_le, tru_bl, int0, int1, int2, h0]
  rw [forL_i (fun s : List Nat × Option Vl => [some (.tup (ws.map iv)), some (.tup (s.1.map iv)), s.2]) (fun s w => (withW s.1 w, some (iv w))) (fun s => BasN 24 s.1) ([], none) ?he (basN_nil 24) ?k]
  case he => rfl
  · have f : ∀ (l : List Nat) (s : List Nat × Option Vl), (l.foldl (fun s w => (withW s.1 w, some (iv w))) s).1 = basisF s.1 l := by
      intro l
      induction l with
      | nil => intro s; rfl
      | cons b l ih => intro s; exact ih _
    simp only [evS, evE, evA, evF, evW, part1, part0, evC, List.getElem?_cons_zero, List.getElem?_cons_succ, putE, List.set_cons_zero, List.set_cons_succ, tgV, putEs, wipeE, walkC, walkF, bnd_ok', lift_some, bndS_nx, bndS_rt, iv_xor, iv_and, iv_add, iv_axor, iv_aadd, iv_eq, iv_ne, iv_lt, iv_gt, iv_le, tru_bl, int0, int1, int2, f]
    rfl
  case k =>
    intro w hw' s B
    have hlen : s.1.length + 1 ≤ line := by rw [line_pow]; exact B.len
    refine ⟨?_, B.more (hw w hw')⟩
    simp only [evS, evE, evA, evF, evW, part1, part0, evC, List.getElem?_cons_zero, List.getElem?_cons_succ, putE, List.set_cons_zero, List.set_cons_succ, tgV, putEs, wipeE, walkC, walkF, bnd_ok', lift_some, bndS_nx, bndS_rt, iv_xor, iv_and, iv_add, iv_axor, iv_aadd, iv_eq, iv_ne, iv_lt, iv_gt, iv_le, tru_bl, int0, int1, int2, r12 s.1 (fun b hb => B.bas.red.pos b hb) hlen]
theorem r14 (bs : List Nat) (hb : ∀ b ∈ bs, b ≠ 0) (hl : bs.length ≤ line) : run GG FF (n + 2) 12 [.tup (bs.map iv)] h = .ok (.lst ((bs.map Nat.log2).map iv)) h := by
  refine run_ret (d := f12) rfl rfl ?_
  show evS GG (run GG FF (n + 1)) f12.body [some (.tup (bs.map iv)), none] h = _
  simp only [f12, evS, evE, evA, evF, evW, part1, part0, evC, List.getElem?_cons_zero, List.getElem?_cons_succ, putE, List.set_cons_zero, List.set_cons_succ, tgV, putEs, wipeE, walkC, walkF, bnd_ok', lift_some, bndS_nx, bndS_rt, iv_xor, iv_and, iv_add, iv_axor, iv_aadd, iv_eq, iv_ne, iv_lt, iv_gt, iv_le, tru_bl, int0, int1, int2]
  rw [compL_map (k := fun b => iv b.log2) (by simpa using hl) ?_]
  · simp only [evS, evE, evA, evF, evW, part1, part0, evC, List.getElem?_cons_zero, List.getElem?_cons_succ, putE, List.set_cons_zero, List.set_cons_succ, tgV, putEs, wipeE, walkC, walkF, bnd_ok', lift_some, bndS_nx, bndS_rt, iv_xor, iv_and, iv_add, iv_axor, iv_aadd, iv_eq, iv_ne, iv_lt, iv_gt, iv_le, tru_bl, int0, int1, int2, List.nil_append, List.map_map]
    rfl
  · intro b hb'
    simp only [evS, evE, evA, evF, evW, part1, part0, evC, List.getElem?_cons_zero, List.getElem?_cons_succ, putE, List.set_cons_zero, List.set_cons_succ, tgV, putEs, wipeE, walkC, walkF, bnd_ok', lift_some, bndS_nx, bndS_rt, iv_xor, iv_and, iv_add, iv_axor, iv_aadd, iv_eq, iv_ne, iv_lt, iv_gt, iv_le, tru_bl, int0, int1, int2, r7 b (hb b hb')]
theorem inB_iv (p : Nat) : ∀ ps : List Nat, inB (iv p) (ps.map iv) = ps.contains p
  | [] => rfl
  | q :: ps => by
    rw [List.map_cons]
    show (match eqV (iv q) (iv p) with | true => true | false => inB (iv p) (ps.map iv)) = _
    have e : eqV (iv q) (iv p) = (p == q) := by
      show ((q : Int) == (p : Int)) = _
      by_cases z : p = q
      · subst z; simp
      · rw [show (p == q) = false from beq_eq_false_iff_ne.mpr z, beq_eq_false_iff_ne]; omega
    rw [e, List.contains_cons]
    cases p == q with
    | true => rfl
    | false => exact inB_iv p ps
theorem flat_iv (ps : List Nat) : (ps.map iv).all flat = true := by
  rw [List.all_eq_true]
  intro x hx
  obtain ⟨q, _, rfl⟩ := List.mem_map.mp hx
  rfl
theorem in_iv (p : Nat) (ps : List Nat) : isIn h (iv p) (.lst (ps.map iv)) = some (ps.contains p) := by
  show (if (flat (iv p) && (ps.map iv).all flat) = true then some (inB (iv p) (ps.map iv)) else none) = _
  rw [flat_iv, inB_iv]
  rfl
theorem r15 (l : Nat) (hl : l ≤ 1000) (bs : List Nat) (hb : ∀ b ∈ bs, b ≠ 0) (hz : bs.length ≤ line) : run GG FF (n + 3) 13 [iv l, .tup (bs.map iv)] h = .ok (.lst (((List.range l).filter fun p => !(bs.map Nat.log2).contains p).map iv)) h := by
  refine run_ret (d := f13) rfl rfl ?_
  show evS GG (run GG FF (n + 2)) f13.body [some (iv l), some (.tup (bs.map iv)), none, none] h = _
  simp only [f13, evS, evE, evA, evF, evW, part1, part0, evC, List.getElem?_cons_zero, List.getElem?_cons_succ, putE, List.set_cons_zero, List.set_cons_succ, tgV, putEs, wipeE, walkC, walkF, bnd_ok', lift_some, bndS_nx, bndS_rt, iv_xor, iv_and, iv_add, iv_axor, iv_aadd, iv_eq, iv_ne, iv_lt, iv_gt, iv_le, tru_bl, int0, int1, int2, r14 bs hb hz]
  have e : rangeL ((l : Int)).toNat 0 1 = (List.range l).map iv := by rw [Int.toNat_natCast, range_iv0]
  have hd : decide (((l : Nat) : Int).natAbs < 1000000000) = true := decide_eq_true (by omega)
  rw [show iv l = Vl.int (l : Nat) from rfl]
  simp only [hd, e, evS, evE, evA, evF, evW, part1, part0, evC, List.getElem?_cons_zero, List.getElem?_cons_succ, putE, List.set_cons_zero, List.set_cons_succ, tgV, putEs, wipeE, walkC, walkF, bnd_ok', lift_some, bndS_nx, bndS_rt, iv_xor, iv_and, iv_add, iv_axor, iv_aadd, iv_eq, iv_ne, iv_lt, iv_gt, iv_le, tru_bl, int0, int1, int2]
  rw [compL_filter (p := fun p => !(bs.map Nat.log2).contains p) (k := iv) (by have := line_big; simp; omega) ?_]
  · simp only [evS, evE, evA, evF, evW, part1, part0, evC, List.getElem?_cons_zero, List.getElem?_cons_succ, putE, List.set_cons_zero, List.set_cons_succ, tgV, putEs, wipeE, walkC, walkF, bnd_ok', lift_some, bndS_nx, bndS_rt, iv_xor, iv_and, iv_add, iv_axor, iv_aadd, iv_eq, iv_ne, iv_lt, iv_gt, iv_le, tru_bl, int0, int1, int2, List.nil_append]
  · intro p hp
    simp only [evS, evE, evA, evF, evW, part1, part0, evC, List.getElem?_cons_zero, List.getElem?_cons_succ, putE, List.set_cons_zero, List.set_cons_succ, tgV, putEs, wipeE, walkC, walkF, bnd_ok', lift_some, bndS_nx, bndS_rt, iv_xor, iv_and, iv_add, iv_axor, iv_aadd, iv_eq, iv_ne, iv_lt, iv_gt, iv_le, tru_bl, int0, int1, int2, cmpV, in_iv]
    cases (bs.map Nat.log2).contains p with
    | true => simp only [evS, evE, evA, evF, evW, part1, part0, evC, List.getElem?_cons_zero, List.getElem?_cons_succ, putE, List.set_cons_zero, List.set_cons_succ, tgV, putEs, wipeE, walkC, walkF, bnd_ok', lift_some, bndS_nx, bndS_rt, iv_xor, iv_and, iv_add, iv_axor, iv_aadd, iv_eq, iv_ne, iv_lt, iv_gt, iv_le, tru_bl, int0, int1, int2, Bool.not_true, Bool.false_eq_true, if_false]
    | false => simp only [evS, evE, evA, evF, evW, part1, part0, evC, List.getElem?_cons_zero, List.getElem?_cons_succ, putE, List.set_cons_zero, List.set_cons_succ, tgV, putEs, wipeE, walkC, walkF, bnd_ok', lift_some, bndS_nx, bndS_rt, iv_xor, iv_and, iv_add, iv_axor, iv_aadd, iv_eq, iv_ne, iv_lt, iv_gt, iv_le, tru_bl, int0, int1, int2, Bool.not_false, if_true]
end
end Law
set_option Elab.async false
set_option linter.all false
set_option maxRecDepth 100000
set_option maxHeartbeats 1000000
namespace Law
open Mi Gf
theorem get_last (h : Hh) (o : Ob) : (h ++ [o])[h.length]? = some o := by
  rw [List.getElem?_append_right (Nat.le_refl _), Nat.sub_self]
  rfl
theorem set_last (h : Hh) (o o' : Ob) : (h ++ [o]).set h.length o' = h ++ [o'] := by
  rw [List.set_append_right _ _ (Nat.le_refl _), Nat.sub_self]
  rfl
theorem mapO_iv (h : Hh) (n0 k : Nat) : ∀ ws : List Nat, mapO (frV h n0 (k + 1)) (ws.map iv) = some (ws.map iv)
  | [] => rfl
  | w :: ws => by
    have := mapO_iv h n0 k ws
    show (match frV h n0 (k + 1) (iv w) with
      | some y => match mapO (frV h n0 (k + 1)) (ws.map iv) with
        | some l => some (y :: l)
        | none => none
      | none => none) = _
    rw [this]
    rfl
theorem wfL_iv (n0 : Nat) : ∀ ws : List Nat, wfL n0 (ws.map iv) = true
  | [] => by simp [wfL]
  | w :: ws => by
    rw [List.map_cons]
    unfold wfL
    rw [show wfV n0 (iv w) = true from by unfold iv; simp [wfV], wfL_iv n0 ws]
theorem take_app (h : Hh) (o : Ob) : (h ++ [o]).take h.length = h := by
  rw [List.take_left']
  rfl
theorem end_frz {h : Hh} (ws : List Nat) (hw : wfH h.length h = true) : endF true h.length (.ok (.rt (.ref h.length)) (h ++ [.lst (ws.map iv)])) = .ok (.lst (ws.map iv)) h := by
  have hd : decide ((h ++ [Ob.lst (ws.map iv)]).length ≤ h.length) = false := by
    rw [decide_eq_false]
    rw [List.length_append, List.length_singleton]
    omega
  have hf : frV (h ++ [.lst (ws.map iv)]) h.length 30 (.ref h.length) = some (.lst (ws.map iv)) := by
    show (if h.length < h.length then some (Vl.ref h.length) else match (h ++ [Ob.lst (ws.map iv)])[h.length]? with
      | some (.lst xs) => match mapO (frV (h ++ [.lst (ws.map iv)]) h.length 29) xs with
        | some l => some (.lst l)
        | none => none
      | _ => none) = _
    rw [if_neg (Nat.lt_irrefl _), get_last]
    dsimp only
    rw [mapO_iv _ _ 28]
  unfold endF fin
  dsimp only
  rw [hd]
  dsimp only
  rw [hf]
  dsimp only
  rw [show wfV h.length (.lst (ws.map iv)) = true from by simp only [wfV, wfL_iv], take_app, hw]
section
variable {n : Nat} {h : Hh}
theorem cut_tail (ps : List Nat) : cut (ps.map iv) (some 1) none = ps.tail.map iv := by
  unfold cut
  show ((ps.map iv).drop (min 1 (ps.map iv).length)).take ((ps.map iv).length - min 1 (ps.map iv).length) = _
  cases ps with
  | nil => rfl
  | cons p ps =>
    have : min 1 ((p :: ps).map iv).length = 1 := by simp
    rw [this]
    simp
    exact List.take_of_length_le (by simp)
theorem zip_iv : ∀ as bs : List Nat, List.zipWith (fun u v => Vl.tup [u, v]) (as.map iv) (bs.map iv) = (as.zip bs).map fun q => .tup [iv q.1, iv q.2]
  | [], _ => rfl
  | _ :: _, [] => rfl
  | a :: as, b :: bs => by
    rw [List.map_cons, List.map_cons, List.zipWith_cons_cons, zip_iv as bs]
    rfl
theorem bls_true' {α : Type} (p : List α) : blsOf (p.map fun _ => Vl.bl true) = some (p.map fun _ => true) := by
  induction p with
  | nil => rfl
  | cons x p ih =>
    show (match blsOf (p.map fun _ => Vl.bl true) with | some l => some (true :: l) | none => none) = _
    rw [ih]
    rfl
theorem asc_zip : ∀ {ps : List Nat}, ps.Pairwise (· < ·) → ∀ q ∈ ps.zip ps.tail, q.1 < q.2
  | [], _, _, h => by cases h
  | [_], _, _, h => by cases h
  | a :: b :: ps, p, q, h => by
    rcases List.mem_cons.mp h with rfl | h
    · exact (List.pairwise_cons.mp p).1 b List.mem_cons_self
    · exact asc_zip (List.pairwise_cons.mp p).2 q h
theorem subN' {a b : Nat} (hab : b ≤ a) : binV .sub h (iv a) (iv b) = some (iv (a - b)) := by
  show (match binI .sub (a : Int) (b : Int) with | some k => some (Vl.int k) | none => none) = _
  rw [subN hab]
  rfl
def spanF (bs acc : List Nat) : List Nat := bs.foldl (fun acc w => acc ++ acc.map (· ^^^ w)) acc
def spTurn (cf : CF) (x : Vl) (env : Env) (h : Hh) : R Oc := match tgV (.n 2) x env with
  | some env' => evS GG cf (.ex (.mth .extend (.var 1) (.acons (.fz (.comp [3] (.n 3) (.over (.fz (.listof (.var 1)))) .noe (.bin .xor (.var 3) (.var 2)))) .anil))) env' h
  | none => .bad
theorem spanF_ok {cf : CF} {t : Vl} : ∀ (bs : List Nat) (acc : List Nat) (o : Option Vl), acc.length * 2 ^ bs.length ≤ 100000 →
    ∃ o', forL (spTurn cf) (bs.map iv) [some t, some (.ref h.length), o, none] (h ++ [.lst (acc.map iv)]) = .ok (.nx [some t, some (.ref h.length), o', none]) (h ++ [.lst ((spanF bs acc).map iv)])
  | [], acc, o, _ => ⟨o, rfl⟩
  | b :: bs, acc, o, hz => by
    have hz2 : (acc ++ acc.map (· ^^^ b)).length * 2 ^ bs.length ≤ 100000 := by
      rw [List.length_append, List.length_map]
      rw [List.length_cons, Nat.pow_succ] at hz
      have : (acc.length + acc.length) * 2 ^ bs.length = acc.length * (2 ^ bs.length * 2) := by
        rw [Nat.add_mul, ← Nat.mul_assoc]
        omega
      omega
    have hle : acc.length ≤ 100000 := by
      have h1 : 1 ≤ 2 ^ (b :: bs).length := Nat.one_le_two_pow
      have := Nat.mul_le_mul_left acc.length h1
      omega
    obtain ⟨o', e⟩ := spanF_ok bs (acc ++ acc.map (· ^^^ b)) (some (iv b)) hz2
    refine ⟨o', ?_⟩
    have big := line_big
    have hr : rcv .extend (h ++ [.lst (acc.map iv)]) (.ref h.length) = true := by
      show (match (h ++ [Ob.lst (acc.map iv)])[h.length]? with
        | some (.lst _) => true
        | _ => false) = true
      rw [get_last]
    have hs : seqOf (h ++ [.lst (acc.map iv)]) (.ref h.length) = some (acc.map iv) := by
      show (match (h ++ [Ob.lst (acc.map iv)])[h.length]? with
        | some (.lst xs) => some xs
        | _ => none) = _
      rw [get_last]
    have hx : mthV .extend (h ++ [.lst (acc.map iv)]) (.ref h.length) [.lst (acc.map fun a => iv (a ^^^ b))] = .ok .non (h ++ [.lst ((acc ++ acc.map (· ^^^ b)).map iv)]) := by
      show (match (h ++ [Ob.lst (acc.map iv)])[h.length]? with
        | some (.lst l) => if l.length + (acc.map fun a => iv (a ^^^ b)).length ≤ line then R.ok Vl.non ((h ++ [Ob.lst (acc.map iv)]).set h.length (.lst (l ++ (acc.map fun a => iv (a ^^^ b))))) else .bad
        | _ => .bad) = _
      rw [get_last]
      dsimp only
      have hsz : (acc.map iv).length + (acc.map fun a => iv (a ^^^ b)).length ≤ line := by
        simp
        have h2 : 2 ≤ 2 ^ (b :: bs).length := by
          rw [List.length_cons, Nat.pow_succ]
          have : 1 ≤ 2 ^ bs.length := Nat.one_le_two_pow
          omega
        have := Nat.mul_le_mul_left acc.length h2
        omega
      rw [if_pos hsz, set_last, List.map_append, List.map_map]
      rfl
    have ht : spTurn cf (iv b) [some t, some (.ref h.length), o, none] (h ++ [.lst (acc.map iv)]) = .ok (.nx [some t, some (.ref h.length), some (iv b), none]) (h ++ [.lst ((acc ++ acc.map (· ^^^ b)).map iv)]) := by
      unfold spTurn
      simp only [evS, evE, evA, evF, evW, part1, part0, evC, List.getElem?_cons_zero, List.getElem?_cons_succ, putE, List.set_cons_zero, List.set_cons_succ, tgV, putEs, wipeE, walkC, walkF, bnd_ok', lift_some, bndS_nx, bndS_rt, iv_xor, iv_and, iv_add, iv_axor, iv_aadd, iv_eq, iv_ne, iv_lt, iv_gt, iv_le, tru_bl, int0, int1, int2, hr, hs]
      rw [compL_map (k := fun a => iv (a ^^^ b)) (by simp; omega) ?hk]
      case hk =>
        intro a _
        simp only [evS, evE, evA, evF, evW, part1, part0, evC, List.getElem?_cons_zero, List.getElem?_cons_succ, putE, List.set_cons_zero, List.set_cons_succ, tgV, putEs, wipeE, walkC, walkF, bnd_ok', lift_some, bndS_nx, bndS_rt, iv_xor, iv_and, iv_add, iv_axor, iv_aadd, iv_eq, iv_ne, iv_lt, iv_gt, iv_le, tru_bl, int0, int1, int2]
      simp only [evS, evE, evA, evF, evW, part1, part0, evC, List.getElem?_cons_zero, List.getElem?_cons_succ, putE, List.set_cons_zero, List.set_cons_succ, tgV, putEs, wipeE, walkC, walkF, bnd_ok', lift_some, bndS_nx, bndS_rt, iv_xor, iv_and, iv_add, iv_axor, iv_aadd, iv_eq, iv_ne, iv_lt, iv_gt, iv_le, tru_bl, int0, int1, int2, List.nil_append, hx]
    rw [List.map_cons]
    show (match spTurn cf (iv b) [some t, some (.ref h.length), o, none] (h ++ [.lst (acc.map iv)]) with
      | .ok (.nx env1) h1 => forL (spTurn cf) (bs.map iv) env1 h1
      | .ok (.ct env1) h1 => forL (spTurn cf) (bs.map iv) env1 h1
      | .ok (.bk env1) h1 => .ok (.nx env1) h1
      | .ok (.rt v) h1 => .ok (.rt v) h1
      | .exc c p h1 => .exc c p h1
      | .bad => .bad) = _
    rw [ht]
    exact e
theorem r16 (bs : List Nat) (hl : bs.length ≤ 12) (hw : wfH h.length h = true) : run GG FF (n + 1) 14 [.tup (bs.map iv)] h = .ok (.lst ((spanF bs.reverse [0]).map iv)) h := by
  rw [run_eq (d := f14) rfl rfl]
  have h0 : decide ([iv 0].length ≤ line) = true := decide_eq_true (by show 1 ≤ line; decide)
  have hz : ([0] : List Nat).length * 2 ^ bs.reverse.length ≤ 100000 := by
    rw [List.length_reverse, List.length_singleton, Nat.one_mul]
    have := Nat.pow_le_pow_right (show 0 < 2 by decide) hl
    have : 2 ^ 12 = 4096 := by decide
    omega
  obtain ⟨o', e⟩ := spanF_ok (h := h) (cf := run GG FF n) (t := .tup (bs.map iv)) bs.reverse [0] none hz
  have e2 : evS GG (run GG FF n) f14.body [some (.tup (bs.map iv)), none, none, none] h = .ok (.rt (.ref h.length)) (h ++ [.lst ((spanF bs.reverse [0]).map iv)]) := by
    have f : f14.body = .seq (.set 1 (.th (.disp (.acons (.int 0) .anil)))) (.seq (.fors (.n 2) (.over (.rev (.var 0))) (.ex (.mth .extend (.var 1) (.acons (.fz (.comp [3] (.n 3) (.over (.fz (.listof (.var 1)))) .noe (.bin .xor (.var 3) (.var 2)))) .anil)))) (.ret (.var 1))) := rfl
    have fo : ∀ env h, evS GG (run GG FF n) (.fors (.n 2) (.over (.rev (.var 0))) (.ex (.mth .extend (.var 1) (.acons (.fz (.comp [3] (.n 3) (.over (.fz (.listof (.var 1)))) .noe (.bin .xor (.var 3) (.var 2)))) .anil)))) env h = bnd (evW GG (run GG FF n) (.over (.rev (.var 0))) env h) fun w h => walkF (spTurn (run GG FF n)) w env h := fun env h => rfl
    have se : ∀ a b env h, evS GG (run GG FF n) (.seq a b) env h = bndS (evS GG (run GG FF n) a env h) fun env h => evS GG (run GG FF n) b env h := fun _ _ _ _ => rfl
    rw [f, se]
    have s1 : evS GG (run GG FF n) (.set 1 (.th (.disp (.acons (.int 0) .anil)))) [some (.tup (bs.map iv)), none, none, none] h = .ok (.nx [some (.tup (bs.map iv)), some (.ref h.length), none, none]) (h ++ [.lst ([0].map iv)]) := by
      simp only [evS, evE, evA, evF, evW, part1, part0, evC, List.getElem?_cons_zero, List.getElem?_cons_succ, putE, List.set_cons_zero, List.set_cons_succ, tgV, putEs, wipeE, walkC, walkF, bnd_ok', lift_some, bndS_nx, bndS_rt, iv_xor, iv_and, iv_add, iv_axor, iv_aadd, iv_eq, iv_ne, iv_lt, iv_gt, iv_le, tru_bl, int0, int1, int2, h0]
      rfl
    rw [s1, bndS_nx, se, fo]
    have s2 : evW GG (run GG FF n) (.over (.rev (.var 0))) [some (.tup (bs.map iv)), some (.ref h.length), none, none] (h ++ [.lst ([0].map iv)]) = .ok (.its (bs.reverse.map iv)) (h ++ [.lst ([0].map iv)]) := by
      simp only [evS, evE, evA, evF, evW, part1, part0, evC, List.getElem?_cons_zero, List.getElem?_cons_succ, putE, List.set_cons_zero, List.set_cons_succ, tgV, putEs, wipeE, walkC, walkF, bnd_ok', lift_some, bndS_nx, bndS_rt, iv_xor, iv_and, iv_add, iv_axor, iv_aadd, iv_eq, iv_ne, iv_lt, iv_gt, iv_le, tru_bl, int0, int1, int2, revW, List.map_reverse]
    rw [s2, bnd_ok']
    show bndS (forL (spTurn (run GG FF n)) (bs.reverse.map iv) _ _) _ = _
    rw [e, bndS_nx]
    rfl
  show endF f14.frz h.length (evS GG (run GG FF n) f14.body [some (.tup (bs.map iv)), none, none, none] h) = _
  rw [e2]
  exact end_frz _ hw
end
end Law
set_option Elab.async false
set_option linter.all false
set_option maxRecDepth 100000
set_option maxHeartbeats 1000000
namespace Err
open Law Mi
theorem run_eq {G : GT} {ft : Nat → Option FD} {n f : Nat} {d : FD} {args : List Vl} {h : Hh} (e : ft f = some d) (hl : args.length = d.ar) :
    run G ft (n + 1) f args h = endF d.frz h.length (evS G (run G ft n) d.body (args.map some ++ List.replicate (d.sl - d.ar) none) h) := by
  show (match ft f with
    | some d => match decide (args.length = d.ar) with
      | true => endF d.frz h.length (evS G (run G ft n) d.body (args.map some ++ List.replicate (d.sl - d.ar) none) h)
      | false => .bad
    | none => .bad) = _
  rw [e]
  dsimp only
  rw [decide_eq_true hl]
theorem end_ret {frz : Bool} {n0 : Nat} {v : Vl} {h : Hh} (e : h.length ≤ n0) : endF frz n0 (.ok (.rt v) h) = .ok v h := by
  unfold endF fin
  cases frz with
  | false => rfl
  | true =>
    dsimp only
    rw [decide_eq_true e]
theorem part1 {G : GT} {cf : CF} {env : Env} {h : Hh} : evO G cf (.sm (.int 1)) env h = .ok (some 1) h := rfl
theorem part0 {G : GT} {cf : CF} {env : Env} {h : Hh} : evO G cf .noe env h = .ok none h := rfl
theorem natOf_coe (w : Nat) : natOf (w : Int) = some w := rfl
theorem bnd_ok' {α β : Type} (a : α) (h : Hh) (f : α → Hh → R β) : bnd (.ok a h) f = f a h := rfl
theorem lift_some {α : Type} (a : α) (h : Hh) : lift (some a) h = .ok a h := rfl
theorem bndS_nx (env : Env) (h : Hh) (f : Env → Hh → R Oc) : bndS (.ok (.nx env) h) f = f env h := rfl
theorem bndS_rt (v : Vl) (h : Hh) (f : Env → Hh → R Oc) : bndS (.ok (.rt v) h) f = .ok (.rt v) h := rfl
theorem modN {a b : Nat} (h : 0 < b) : binI .mod (a : Int) (b : Int) = some ((a % b : Nat) : Int) := by
  show (if (0 : Int) < (b : Int) then some ((a : Int) % b) else none) = _
  rw [if_pos (by omega)]
  rfl
def iv (w : Nat) : Vl := .int w
section
variable {n : Nat} {h : Hh}
theorem iv_xor (a b : Nat) : binV .xor h (iv a) (iv b) = some (iv (a ^^^ b)) := rfl
theorem iv_and (a b : Nat) : binV .and h (iv a) (iv b) = some (iv (a &&& b)) := rfl
theorem iv_add (a b : Nat) : binV .add h (iv a) (iv b) = some (iv (a + b)) := rfl
theorem iv_axor (a b : Nat) : augV .xor h (iv a) (iv b) = some (iv (a ^^^ b)) := rfl
theorem iv_aadd (a b : Nat) : augV .add h (iv a) (iv b) = some (iv (a + b)) := rfl
theorem iv_eq (a b : Nat) : cmpV .eq h (iv a) (iv b) = some (decide (a = b)) := by
  show some ((a : Int) == (b : Int)) = _
  congr 1
  by_cases e : a = b
  · subst e; simp
  · rw [decide_eq_false e, beq_eq_false_iff_ne]; omega
theorem iv_ne (a b : Nat) : cmpV .ne h (iv a) (iv b) = some (!decide (a = b)) := by
  have := iv_eq (h := h) a b
  show (match cmpV .eq h (iv a) (iv b) with | some b => some (!b) | none => none) = _
  rw [this]
theorem iv_lt (a b : Nat) : cmpV .lt h (iv a) (iv b) = some (decide (a < b)) := by
  show some (decide ((a : Int) < b)) = _
  simp
theorem iv_gt (a b : Nat) : cmpV .gt h (iv a) (iv b) = some (decide (b < a)) := by
  show some (decide ((b : Int) < a)) = _
  simp
theorem iv_le (a b : Nat) : cmpV .le h (iv a) (iv b) = some (decide (a ≤ b)) := by
  show some (decide ((a : Int) ≤ b)) = _
  simp
theorem tru_bl (b : Bool) : truth h (.bl b) = some b := rfl
theorem int0 : Vl.int 0 = iv 0 := rfl
theorem int1 : Vl.int 1 = iv 1 := rfl
theorem int2 : Vl.int 2 = iv 2 := rfl
theorem iv_mod {a b : Nat} (hb : 0 < b) : binV .mod h (iv a) (iv b) = some (iv (a % b)) := by
  show (match binI .mod (a : Int) (b : Int) with | some k => some (Vl.int k) | none => none) = _
  rw [modN hb]
  rfl
theorem iv_fdiv {a b : Nat} (hb : 0 < b) (hl : b.log2 < 9000) : binV .fdiv h (iv a) (iv b) = some (iv (a / b)) := by
  have e : binI .fdiv (a : Int) (b : Int) = some ((a / b : Nat) : Int) := by
    show (if (0 : Int) < (b : Int) then (if (b : Int).natAbs.log2 < 9000 then some ((a : Int) / b) else none) else none) = _
    rw [if_pos (by omega), Int.natAbs_natCast, if_pos hl]
    rfl
  show (match binI .fdiv (a : Int) (b : Int) with | some k => some (Vl.int k) | none => none) = _
  rw [e]
  rfl
theorem bif_int (w : Nat) : bifV .int h [iv w] = some (iv w) := rfl
theorem iv_mul {a b : Nat} (hs : a < 18446744073709551616 ∨ b < 18446744073709551616) : binV .mul h (iv a) (iv b) = some (iv (a * b)) := by
  have e : binI .mul (a : Int) (b : Int) = some ((a * b : Nat) : Int) := by
    show (if (a : Int).natAbs.log2 + (b : Int).natAbs.log2 < 1000000 ∨ (-18446744073709551616 < (a : Int) ∧ (a : Int) < 18446744073709551616) ∨ (-18446744073709551616 < (b : Int) ∧ (b : Int) < 18446744073709551616) then some ((a : Int) * b) else none) = _
    rw [if_pos (by omega), Int.natCast_mul]
  show (match binI .mul (a : Int) (b : Int) with | some k => some (Vl.int k) | none => none) = _
  rw [e]
  rfl
theorem sub_at {p : Nat} {g s c : Vl} (hp : h[p]? = some (.lst [g, s, c])) : subV h (.ref p) (iv 0) = some g ∧ subV h (.ref p) (iv 1) = some s ∧ subV h (.ref p) (iv 2) = some c := by
  have e : ∀ k : Nat, subV h (.ref p) (iv k) = match Mi.ixN 3 (k : Int) with
    | some j => [g, s, c][j]?
    | none => none := fun k => by
    show (match h[p]? with
      | some (.lst xs) => match Mi.ixN xs.length (k : Int) with
        | some j => xs[j]?
        | none => none
      | some (.dct kvs) => dget (iv k) kvs
      | _ => none) = _
    rw [hp]
    rfl
  exact ⟨e 0, e 1, e 2⟩
theorem set_at {p : Nat} {g s c : Vl} (hp : h[p]? = some (.lst [g, s, c])) (v : Vl) : setV h (.ref p) (iv 0) v = some (h.set p (.lst [v, s, c])) ∧ setV h (.ref p) (iv 2) v = some (h.set p (.lst [g, s, v])) := by
  have e : ∀ k : Nat, setV h (.ref p) (iv k) v = match Mi.ixN 3 (k : Int) with
    | some j => some (h.set p (.lst ([g, s, c].set j v)))
    | none => none := fun k => by
    show (match h[p]? with
      | some (.lst xs) => match Mi.ixN xs.length (k : Int) with
        | some j => some (h.set p (.lst (xs.set j v)))
        | none => none
      | some (.dct kvs) => match keyOk (iv k) with
        | true => if kvs.length < line then some (h.set p (.dct (dput (iv k) v kvs))) else none
        | false => none
      | _ => none) = _
    rw [hp]
    rfl
  exact ⟨e 0, e 2⟩
def Pail (h : Hh) (p : Nat) : Prop := ∃ g s c : Nat, h[p]? = some (.lst [iv g, iv s, iv c])
def Drew (h h' : Hh) (p : Nat) : Prop := Pail h' p ∧ ∃ o, h' = h.set p o
theorem Drew.len {h h' : Hh} {p : Nat} (d : Drew h h' p) : h'.length = h.length := by
  obtain ⟨_, o, rfl⟩ := d
  exact List.length_set ..
theorem Drew.trans {h h1 h2 : Hh} {p : Nat} (a : Drew h h1 p) (b : Drew h1 h2 p) : Drew h h2 p := by
  obtain ⟨_, o, rfl⟩ := a
  obtain ⟨q, o', rfl⟩ := b
  exact ⟨q, o', by rw [List.set_set]⟩
theorem Drew.refl {h : Hh} {p : Nat} (hp : Pail h p) : Drew h h p := by
  obtain ⟨g, s, c, e⟩ := hp
  exact ⟨⟨g, s, c, e⟩, .lst [iv g, iv s, iv c], by
    have hl := (List.getElem?_eq_some_iff.mp e).1
    have he := (List.getElem?_eq_some_iff.mp e).2
    rw [← he, List.set_getElem_self]⟩
theorem get_last (h : Hh) (o : Ob) : (h ++ [o])[h.length]? = some o := by
  rw [List.getElem?_append_right (Nat.le_refl _), Nat.sub_self]
  rfl
theorem iv_pow {a b : Nat} (hs : (a.log2 + 1) * b < 100000) : binV .pow h (iv a) (iv b) = some (iv (a ^ b)) := by
  show (match (if (a.log2 + 1) * b < 100000 then some ((a : Int) ^ b) else none) with
    | some k => some (Vl.int k)
    | none => none) = _
  rw [if_pos hs]
  show some (Vl.int ((a : Int) ^ b)) = some (Vl.int ((a ^ b : Nat) : Int))
  rw [Int.natCast_pow]
theorem abs_iv (c : Int) : bifV .abs h [.int c] = some (iv c.natAbs) := by
  show some (Vl.int (if c < 0 then -c else c)) = some (Vl.int (c.natAbs : Int))
  congr 2
  split <;> omega
theorem cut_iv (a b : Nat) : ∃ k : Nat, (match binV .sub h (iv a) (iv b) with
    | some x => bifV .max2 h [iv 0, x]
    | none => none) = some (iv k) := by
  refine ⟨a - b, ?_⟩
  show some (Vl.int (if ((a : Int) - b) > (0 : Int) then (a : Int) - b else 0)) = some (Vl.int ((a - b : Nat) : Int))
  congr 2
  split <;> omega
theorem int_bl (b : Bool) : ∃ k : Nat, bifV .int h [.bl b] = some (iv k) := by
  cases b with
  | true => exact ⟨1, rfl⟩
  | false => exact ⟨0, rfl⟩
theorem scr_sub {ns : List Int} {s : Nat} (hs : s < ns.length) : subV h (.scr (ns.map .int)) (iv s) = some (.int ns[s]) := by
  show (match Mi.ixN (ns.map Vl.int).length (s : Int) with
    | some j => (ns.map Vl.int)[j]?
    | none => none) = _
  have : Mi.ixN (ns.map Vl.int).length (s : Int) = some s := by
    show (if s < (ns.map Vl.int).length then some s else none) = _
    rw [if_pos (by rw [List.length_map]; exact hs)]
  rw [this]
  show (ns.map Vl.int)[s]? = _
  rw [List.getElem?_map, List.getElem?_eq_getElem hs]
  rfl
theorem scr_len (ns : List Int) : bifV .len h [.scr (ns.map .int)] = some (iv ns.length) := by
  show some (Vl.int ((ns.map Vl.int).length : Nat)) = _
  rw [List.length_map]
  rfl
theorem pail_at (a b c : Nat) : Pail (h ++ [.lst [iv a, iv b, iv c]]) h.length := ⟨a, b, c, get_last _ _⟩
end
theorem run_rt2 {G : GT} {ft : Nat → Option FD} {n f : Nat} {d : FD} {args : List Vl} {h h' : Hh} {v : Vl} (e : ft f = some d) (hl : args.length = d.ar)
    (hv : evS G (run G ft n) d.body (args.map some ++ List.replicate (d.sl - d.ar) none) h = .ok (.rt v) h') (hlen : h'.length ≤ h.length) : run G ft (n + 1) f args h = .ok v h' := by
  rw [run_eq e hl, hv]
  exact end_ret hlen
section
variable {G : GT} {cf : CF}
theorem ev_seq {a b : St} {env : Env} {h : Hh} : evS G cf (.seq a b) env h = bndS (evS G cf a env h) fun env h => evS G cf b env h := rfl
def turnF (G : GT) (cf : CF) (tg : Tg) (b : St) (x : Vl) (env : Env) (h : Hh) : R Oc := match tgV tg x env with
  | some env' => evS G cf b env' h
  | none => .bad
theorem ev_fors {tg : Tg} {it : Ex} {b : St} {env : Env} {h : Hh} : evS G cf (.fors tg it b) env h = bnd (evW G cf it env h) fun w h => walkF (turnF G cf tg b) w env h := rfl
def testW (G : GT) (cf : CF) (c : Ex) (env : Env) (h : Hh) : R Bool := bnd (evE G cf c env h) fun x h => lift (truth h x) h
def bodyW (G : GT) (cf : CF) (b : St) (env : Env) (h : Hh) : R Oc := evS G cf b env h
theorem ev_whiles {c : Ex} {b : St} {env : Env} {h : Hh} : evS G cf (.whiles c b) env h = whileL (testW G cf c) (bodyW G cf b) fuelW env h := rfl
end
section
variable {n : Nat} {h : Hh}
theorem dr_a {p g s c t : Nat} (hp : h[p]? = some (.lst [iv g, iv s, iv c])) (ht : 0 < t) (hl : t.log2 < 9000) (hg : 0 < g) :
    ∃ r g' c', r < t ∧ run GG FF (n + 1) 44 [.ref p, iv t] h = .ok (iv r) (h.set p (.lst [iv g', iv s, iv c'])) := by
  obtain ⟨a0, a1, a2⟩ := sub_at hp
  refine ⟨g % t, g / t, c, Nat.mod_lt _ ht, ?_⟩
  rw [run_eq (d := f44) rfl rfl]
  have e : evS GG (run GG FF n) f44.body [some (.ref p), some (iv t), none, none, none] h = .ok (.rt (iv (g % t))) (h.set p (.lst [iv (g / t), iv s, iv c])) := by
    simp only [f44, evS, evE, evA, evF, evW, part1, part0, evC, List.getElem?_cons_zero, List.getElem?_cons_succ, putE, List.set_cons_zero, List.set_cons_succ, tgV, putEs, wipeE, walkC, walkF, bnd_ok', lift_some, bndS_nx, bndS_rt, iv_xor, iv_and, iv_add, iv_axor, iv_aadd, iv_eq, iv_ne, iv_lt, iv_gt, iv_le, tru_bl, int0, int1, int2, bndS, a0, decide_eq_true hg, bif_int, iv_mod ht, iv_fdiv ht hl, (set_at hp (iv (g / t))).1]
  show endF f44.frz h.length (evS GG (run GG FF n) f44.body [some (.ref p), some (iv t), none, none, none] h) = _
  rw [e]
  exact end_ret (by rw [List.length_set]; exact Nat.le_refl _)
theorem dr_c {p g s c t K0 K1 K2 K3 K4 K6 : Nat} (lit1 : Vl.int 86028157 = iv K0) (lit2 : Vl.int 2305843009213693951 = iv K1) (lit3 : Vl.int 139 = iv K2) (lit4 : Vl.int 2305843009213693907 = iv K3) (lit5 : Vl.int 7368791 = iv K4) (lit7 : Vl.int 65543 = iv K6)
    (k0s : K0 < 18446744073709551616) (k1p : 0 < K1) (k1s : K1 < 18446744073709551616) (k2s : K2 < 18446744073709551616) (k3p : 0 < K3) (k4s : K4 < 18446744073709551616) (k6p : 0 < K6) (k6l : K6.log2 < 9000)
    (hp : h[p]? = some (.lst [iv g, iv s, iv c])) (ht : 0 < t) (hl : t.log2 < 9000) (hg : ¬ 0 < g) :
    ∃ r g' c', r < t ∧ run GG FF (n + 1) 44 [.ref p, iv t] h = .ok (iv r) (h.set p (.lst [iv g', iv s, iv c'])) := by
  have hlt : p < h.length := (List.getElem?_eq_some_iff.mp hp).1
  obtain ⟨a0, a1, a2⟩ := sub_at hp
  have hp1 : (h.set p (.lst [iv g, iv s, iv (c + 1)]))[p]? = some (.lst [iv g, iv s, iv (c + 1)]) := List.getElem?_set_self hlt
  obtain ⟨b0, b1, b2⟩ := sub_at hp1
  have m1 : (s + K0 * (c + 1)) % K1 < K1 := Nat.mod_lt _ k1p
  have m2 : (s + K0 * (c + 1)) % K1 < 18446744073709551616 := Nat.lt_trans m1 k1s
  have e : ∃ r, evS GG (run GG FF n) f44.body [some (.ref p), some (iv t), none, none, none] h = .ok (.rt (iv (r % t))) (h.set p (.lst [iv g, iv s, iv (c + 1)])) := by
    refine ⟨(((s + K0 * (c + 1)) % K1 * ((s + K0 * (c + 1)) % K1) + K2 * (c + 1)) % K3 * K4 + (s + K0 * (c + 1)) % K1) / K6, ?_⟩
    simp only [f44, evS, evE, evA, evF, evW, part1, part0, evC, List.getElem?_cons_zero, List.getElem?_cons_succ, putE, List.set_cons_zero, List.set_cons_succ, tgV, putEs, wipeE, walkC, walkF, bnd_ok', lift_some, bndS_nx, bndS_rt, iv_xor, iv_and, iv_add, iv_axor, iv_aadd, iv_eq, iv_ne, iv_lt, iv_gt, iv_le, tru_bl, int0, int1, int2, a0, decide_eq_false hg, a2, (set_at hp (iv (c + 1))).2, b1, b2, lit1, lit2, lit3, lit4, lit5, lit7, bif_int, iv_mul (Or.inl k0s), iv_mod k1p, iv_mul (Or.inl m2), iv_mul (Or.inl k2s), iv_mod k3p, iv_mul (Or.inr k4s), iv_fdiv k6p k6l, iv_mod ht]
  obtain ⟨r, e⟩ := e
  refine ⟨r % t, g, c + 1, Nat.mod_lt _ ht, ?_⟩
  rw [run_eq (d := f44) rfl rfl]
  show endF f44.frz h.length (evS GG (run GG FF n) f44.body [some (.ref p), some (iv t), none, none, none] h) = _
  rw [e]
  exact end_ret (by rw [List.length_set]; exact Nat.le_refl _)
theorem q_draw {p t : Nat} (hp : Pail h p) (ht : 0 < t) (hl : t.log2 < 9000) : ∃ r h', r < t ∧ run GG FF (n + 1) 44 [.ref p, iv t] h = .ok (iv r) h' ∧ Drew h h' p := by
  obtain ⟨g, s, c, e⟩ := hp
  have hlt := (List.getElem?_eq_some_iff.mp e).1
  have fin : (∃ r g' c' : Nat, r < t ∧ run GG FF (n + 1) 44 [.ref p, iv t] h = .ok (iv r) (h.set p (.lst [iv g', iv s, iv c']))) → ∃ r h', r < t ∧ run GG FF (n + 1) 44 [.ref p, iv t] h = .ok (iv r) h' ∧ Drew h h' p := fun ⟨r, g', c', h1, h2⟩ =>
    ⟨r, _, h1, h2, ⟨g', s, c', List.getElem?_set_self hlt⟩, _, rfl⟩
  by_cases hg : 0 < g
  · exact fin (dr_a e ht hl hg)
  · exact fin (dr_c (K0 := 86028157) (K1 := 2305843009213693951) (K2 := 139) (K3 := 2305843009213693907) (K4 := 7368791) (K6 := 65543) rfl rfl rfl rfl rfl rfl (by decide) (by decide) (by decide) (by decide) (by decide) (by decide) (by decide) (by decide) e ht hl hg)
theorem log_small {t : Nat} (h : t ≤ 100000000) : t.log2 < 9000 := by
  by_cases hz : t = 0
  · subst hz; decide
  · exact (Nat.log2_lt hz).mpr (Nat.lt_of_le_of_lt h (Nat.lt_of_lt_of_le (show 100000000 < 2 ^ 27 by decide) (Nat.pow_le_pow_right (by decide) (by decide))))
theorem vat_a {A1 A2 A3 A4 A5 A6 A7 A8 A9 B1 B2 : Nat} (l1 : Vl.int 181 = iv A1) (l2 : Vl.int 67 = iv A2) (l3 : Vl.int 10 = iv A3) (l4 : Vl.int 55 = iv A4) (l5 : Vl.int 6 = iv A5) (l6 : Vl.int 2305843009213693693 = iv A6) (l7 : Vl.int 97 = iv A7) (l8 : Vl.int 613 = iv A8) (l9 : Vl.int 59 = iv A9) (m1 : Vl.int 19 = iv B1) (m2 : Vl.int 16 = iv B2)
    (q1 : A1 < 18446744073709551616) (q3 : 0 < A3) (q4 : (A3.log2 + 1) * A4 < 100000) (q5 : ((A3 ^ A4).log2 + 1) * A5 < 100000) (q6 : 0 < A6) (q7 : A7 < 18446744073709551616) (q8 : A8 < 18446744073709551616) (q9 : A9 < 18446744073709551616) (p2 : (A3.log2 + 1) * B2 < 100000)
    {ns : List Int} (s : Nat) : ∃ g t, run GG FF (n + 1) 43 [.scr (ns.map .int), iv s] h = .ok (.ref h.length) (h ++ [.lst [iv g, iv t, iv 0]]) := by
  have q2 : 0 < (A3 ^ A4) ^ A5 := Nat.pow_pos (Nat.pow_pos q3)
  have s1 : ∃ c : Int, evS GG (run GG FF n) (.set 2 (.ite (.cmp .lt (.var 1) (.bif .len (.acons (.var 0) .anil))) (.bif .int (.acons (.sub (.var 0) (.var 1)) .anil)) (.bin .add (.bin .mul (.int 181) (.var 1)) (.int 67)))) [some (.scr (ns.map .int)), some (iv s), none, none] h = .ok (.nx [some (.scr (ns.map .int)), some (iv s), some (.int c), none]) h := by
    by_cases hs : s < ns.length
    · refine ⟨ns[s], ?_⟩
      have e3 : bifV .int h [.int ns[s]] = some (.int ns[s]) := rfl
      simp only [evS, evE, evA, evF, evW, part1, part0, evC, List.getElem?_cons_zero, List.getElem?_cons_succ, putE, List.set_cons_zero, List.set_cons_succ, tgV, putEs, wipeE, walkC, walkF, bnd_ok', lift_some, bndS_nx, bndS_rt, iv_xor, iv_and, iv_add, iv_axor, iv_aadd, iv_eq, iv_ne, iv_lt, iv_gt, iv_le, tru_bl, int0, int1, int2, scr_len, decide_eq_true hs, scr_sub hs, e3]
    · refine ⟨((A1 * s + A2 : Nat) : Int), ?_⟩
      simp only [evS, evE, evA, evF, evW, part1, part0, evC, List.getElem?_cons_zero, List.getElem?_cons_succ, putE, List.set_cons_zero, List.set_cons_succ, tgV, putEs, wipeE, walkC, walkF, bnd_ok', lift_some, bndS_nx, bndS_rt, iv_xor, iv_and, iv_add, iv_axor, iv_aadd, iv_eq, iv_ne, iv_lt, iv_gt, iv_le, tru_bl, int0, int1, int2, scr_len, decide_eq_false hs, l1, l2, iv_mul (Or.inl q1)]
      rfl
  obtain ⟨c, s1⟩ := s1
  have s2 : ∃ g : Nat, evS GG (run GG FF n) (.set 3 (.bin .mod (.bif .int (.acons (.bif .abs (.acons (.var 2) .anil)) .anil)) (.bin .pow (.bin .pow (.int 10) (.int 55)) (.int 6)))) [some (.scr (ns.map .int)), some (iv s), some (.int c), none] h = .ok (.nx [some (.scr (ns.map .int)), some (iv s), some (.int c), some (iv g)]) h := by
    refine ⟨c.natAbs % (A3 ^ A4) ^ A5, ?_⟩
    simp only [evS, evE, evA, evF, evW, part1, part0, evC, List.getElem?_cons_zero, List.getElem?_cons_succ, putE, List.set_cons_zero, List.set_cons_succ, tgV, putEs, wipeE, walkC, walkF, bnd_ok', lift_some, bndS_nx, bndS_rt, iv_xor, iv_and, iv_add, iv_axor, iv_aadd, iv_eq, iv_ne, iv_lt, iv_gt, iv_le, tru_bl, int0, int1, int2, abs_iv, bif_int, l3, l4, l5, iv_pow q4, iv_pow q5, iv_mod q2]
  obtain ⟨g, s2⟩ := s2
  obtain ⟨k, hk⟩ := cut_iv (h := h) g (A3 ^ B2)
  obtain ⟨j, hj⟩ := int_bl (h := h) (decide (c < 0))
  have hc : cmpV .lt h (.int c) (iv 0) = some (decide (c < 0)) := rfl
  refine ⟨k, g % A6 * A7 + A8 * s + A9 * j + B1, ?_⟩
  have e : evS GG (run GG FF n) (.seq (.set 2 (.ite (.cmp .lt (.var 1) (.bif .len (.acons (.var 0) .anil))) (.bif .int (.acons (.sub (.var 0) (.var 1)) .anil)) (.bin .add (.bin .mul (.int 181) (.var 1)) (.int 67)))) (.seq (.set 3 (.bin .mod (.bif .int (.acons (.bif .abs (.acons (.var 2) .anil)) .anil)) (.bin .pow (.bin .pow (.int 10) (.int 55)) (.int 6)))) (.ret (.th (.disp (.acons (.bif .max2 (.acons (.int 0) (.acons (.bin .sub (.var 3) (.bin .pow (.int 10) (.int 16))) .anil))) (.acons (.bin .add (.bin .add (.bin .add (.bin .mul (.bin .mod (.bif .int (.acons (.var 3) .anil)) (.int 2305843009213693693)) (.int 97)) (.bin .mul (.int 613) (.var 1))) (.bin .mul (.int 59) (.bif .int (.acons (.cmp .lt (.var 2) (.int 0)) .anil)))) (.int 19)) (.acons (.int 0) .anil)))))))) [some (.scr (ns.map .int)), some (iv s), none, none] h = .ok (.rt (.ref h.length)) (h ++ [.lst [iv k, iv (g % A6 * A7 + A8 * s + A9 * j + B1), iv 0]]) := by
    have h0 : decide ([iv k, iv (g % A6 * A7 + A8 * s + A9 * j + B1), iv 0].length ≤ line) = true := decide_eq_true (by show 3 ≤ line; decide)
    cases hb : binV .sub h (iv g) (iv (A3 ^ B2)) with
    | none =>
      rw [hb] at hk
      cases hk
    | some x =>
      rw [hb] at hk
      rw [ev_seq, s1, bndS_nx, ev_seq, s2, bndS_nx]
      simp only [evS, evE, evA, evF, evW, part1, part0, evC, List.getElem?_cons_zero, List.getElem?_cons_succ, putE, List.set_cons_zero, List.set_cons_succ, tgV, putEs, wipeE, walkC, walkF, bnd_ok', lift_some, bndS_nx, bndS_rt, iv_xor, iv_and, iv_add, iv_axor, iv_aadd, iv_eq, iv_ne, iv_lt, iv_gt, iv_le, tru_bl, int0, int1, int2, l3, m2, m1, l6, l7, l8, l9, bif_int, iv_pow p2, hb, hk, iv_mod q6, iv_mul (Or.inr q7), iv_mul (Or.inl q8), hc, hj, iv_mul (Or.inl q9), h0]
  rw [run_eq (d := f43) rfl rfl]
  show endF f43.frz h.length (evS GG (run GG FF n) (.seq (.set 2 (.ite (.cmp .lt (.var 1) (.bif .len (.acons (.var 0) .anil))) (.bif .int (.acons (.sub (.var 0) (.var 1)) .anil)) (.bin .add (.bin .mul (.int 181) (.var 1)) (.int 67)))) (.seq (.set 3 (.bin .mod (.bif .int (.acons (.bif .abs (.acons (.var 2) .anil)) .anil)) (.bin .pow (.bin .pow (.int 10) (.int 55)) (.int 6)))) (.ret (.th (.disp (.acons (.bif .max2 (.acons (.int 0) (.acons (.bin .sub (.var 3) (.bin .pow (.int 10) (.int 16))) .anil))) (.acons (.bin .add (.bin .add (.bin .add (.bin .mul (.bin .mod (.bif .int (.acons (.var 3) .anil)) (.int 2305843009213693693)) (.int 97)) (.bin .mul (.int 613) (.var 1))) (.bin .mul (.int 59) (.bif .int (.acons (.cmp .lt (.var 2) (.int 0)) .anil)))) (.int 19)) (.acons (.int 0) .anil)))))))) [some (.scr (ns.map .int)), some (iv s), none, none] h) = _
  rw [e]
  rfl
theorem q_vat (ns : List Int) (s : Nat) : ∃ h', run GG FF (n + 1) 43 [.scr (ns.map .int), iv s] h = .ok (.ref h.length) h' ∧ Pail h' h.length ∧ ∃ ws : List Nat, h' = h ++ [.lst (ws.map iv)] := by
  obtain ⟨g, t, e⟩ := vat_a (n := n) (h := h) (A1 := 181) (A2 := 67) (A3 := 10) (A4 := 55) (A5 := 6) (A6 := 2305843009213693693) (A7 := 97) (A8 := 613) (A9 := 59) (B1 := 19) (B2 := 16) rfl rfl rfl rfl rfl rfl rfl rfl rfl rfl rfl (by decide) (by decide) (by decide +kernel) (by decide +kernel) (by decide) (by decide) (by decide) (by decide) (by decide +kernel) (ns := ns) s
  exact ⟨_, e, pail_at g t 0, [g, t, 0], rfl⟩
theorem q_pickV {p : Nat} (hp : Pail h p) (xs : List Vl) (hw : xs ≠ []) (hl : xs.length ≤ 1000) : ∃ x h', x ∈ xs ∧ run GG FF (n + 2) 45 [.ref p, .lst xs] h = .ok x h' ∧ Drew h h' p := by
  have hpos : 0 < xs.length := List.length_pos_iff.mpr hw
  obtain ⟨r, h', h1, h2, h3⟩ := q_draw (n := n) hp hpos (log_small (by omega))
  refine ⟨xs[r], h', List.getElem_mem h1, ?_, h3⟩
  have e2 : subV h' (.lst xs) (iv r) = some xs[r] := by
    show (match Mi.ixN xs.length (r : Int) with
      | some j => xs[j]?
      | none => none) = _
    have : Mi.ixN xs.length (r : Int) = some r := by
      show (if r < xs.length then some r else none) = _
      rw [if_pos h1]
    rw [this]
    exact List.getElem?_eq_getElem h1
  have e0 : bifV .len h [.lst xs] = some (iv xs.length) := rfl
  have e : evS GG (run GG FF (n + 1)) f45.body [some (.ref p), some (.lst xs)] h = .ok (.rt xs[r]) h' := by
    simp only [f45, evS, evE, evA, evF, evW, part1, part0, evC, List.getElem?_cons_zero, List.getElem?_cons_succ, putE, List.set_cons_zero, List.set_cons_succ, tgV, putEs, wipeE, walkC, walkF, bnd_ok', lift_some, bndS_nx, bndS_rt, iv_xor, iv_and, iv_add, iv_axor, iv_aadd, iv_eq, iv_ne, iv_lt, iv_gt, iv_le, tru_bl, int0, int1, int2, e0, h2, e2]
  exact run_rt2 (d := f45) rfl rfl e (by rw [h3.len]; exact Nat.le_refl _)
end
end Err
set_option Elab.async false
set_option linter.all false
set_option maxRecDepth 100000
set_option maxHeartbeats 1000000
namespace Err
open Law Mi
abbrev T3 := Nat × Nat × Nat
def pb (t : T3) : Ob := .lst [iv t.1, iv t.2.1, iv t.2.2]
def SP (a b c : T3) : List Hh := [[], [pb a], [pb a, pb b], [pb a, pb b, pb c]]
def SQ (a b c d : T3) : List Hh := [[pb a], [pb a, pb b], [pb a, pb b, pb c], [pb a, pb b, pb c, pb d]]
def z3 : T3 := (0, 0, 0)
theorem sp_of {ts : List T3} (h : ts.length ≤ 3) : ∃ a b c, ts.map pb ∈ SP a b c := by
  unfold SP
  match ts, h with
  | [], _ => exact ⟨z3, z3, z3, by simp⟩
  | [a], _ => exact ⟨a, z3, z3, by simp⟩
  | [a, b], _ => exact ⟨a, b, z3, by simp⟩
  | [a, b, c], _ => exact ⟨a, b, c, by simp⟩
  | _ :: _ :: _ :: _ :: _, h => simp at h
theorem sq_of {ts : List T3} (h1 : 1 ≤ ts.length) (h : ts.length ≤ 4) : ∃ a b c d, ts.map pb ∈ SQ a b c d := by
  unfold SQ
  match ts, h1, h with
  | [], h1, _ => simp at h1
  | [a], _, _ => exact ⟨a, z3, z3, z3, by simp⟩
  | [a, b], _, _ => exact ⟨a, b, z3, z3, by simp⟩
  | [a, b, c], _, _ => exact ⟨a, b, c, z3, by simp⟩
  | [a, b, c, d], _, _ => exact ⟨a, b, c, d, by simp⟩
  | _ :: _ :: _ :: _ :: _ :: _, _, h => simp at h
theorem all1 {α β : Type} {f g : α → β} : ∀ {l : List α}, l.map f = l.map g → ∀ x ∈ l, f x = g x
  | [], _, _, h => by cases h
  | y :: l, e, x, h => by
    rw [List.map_cons, List.map_cons] at e
    injection e with e1 e2
    rcases List.mem_cons.mp h with rfl | h
    · exact e1
    · exact all1 e2 x h
theorem seq_step {G : GT} {cf : CF} {a b : St} {env env1 : Env} {h h1 : Hh} {r : R Oc} (e : evS G cf a env h = .ok (.nx env1) h1) (k : evS G cf b env1 h1 = r) : evS G cf (.seq a b) env h = r := by
  rw [ev_seq, e]
  exact k
theorem draw_step {G : GT} {env : Env} {i : Nat} {e : Ex} {xs : List Vl} {os tl : Hh} {P : T3} (he : evE G LOW e env (os ++ pb P :: tl) = .ok (.lst xs) (os ++ pb P :: tl)) (h0 : env[0]? = some (some (.ref os.length))) (hx : xs ≠ []) (hl : xs.length ≤ 1000) :
    ∃ x P', x ∈ xs ∧ evS G LOW (.set i (.call 45 (.acons (.var 0) (.acons e .anil)))) env (os ++ pb P :: tl) = .ok (.nx (env.set i (some x))) (os ++ pb P' :: tl) := by
  have at0 : ∀ o : Ob, (os ++ o :: tl)[os.length]? = some o := fun o => by
    rw [List.getElem?_append_right (Nat.le_refl _), Nat.sub_self]
    rfl
  obtain ⟨x, h', hx', er, ⟨g', s', c', hp'⟩, o, hd⟩ := q_pickV (n := 18) (h := os ++ pb P :: tl) (p := os.length) ⟨P.1, P.2.1, P.2.2, at0 _⟩ xs hx hl
  have hd2 : h' = os ++ o :: tl := by
    rw [hd, List.set_append_right _ _ (Nat.le_refl _), Nat.sub_self]
    rfl
  subst hd2
  rw [at0] at hp'
  cases Option.some.inj hp'
  refine ⟨x, (g', s', c'), hx', ?_⟩
  have hc : LOW 45 [.ref os.length, .lst xs] (os ++ pb P :: tl) = .ok x (os ++ pb (g', s', c') :: tl) := er
  simp only [evS, evE, evA, h0, he, hc, bnd_ok', lift_some, putE]
theorem app_step {G : GT} {env : Env} {h h' : Hh} {i : Nat} {v a : Vl} {e : Ex} (hi : env[i]? = some (some v)) (hr : rcv .append h v = true) (he : evE G LOW e env h = .ok a h) (ha : mthV .append h v [a] = .ok .non h') :
    evS G LOW (.ex (.mth .append (.var i) (.acons e .anil))) env h = .ok (.nx env) h' := by
  simp only [evS, evE, evA, hi, bnd_ok', hr, he, ha]
theorem met_fine {G : GT} {env : Env} {h : Hh} {f : Nat} {b : Ex} {v x : Vl} {M : Mt} (hm : G.met f = some M) (hf : heV M.fine none = some x) (e : evE G LOW b env h = .ok v h) : evE G LOW (.lamc f b) env h = .ok x h := by
  simp only [evE, hm, e, metR, hf, finO, fin]
  rw [decide_eq_true (Nat.le_refl _)]
theorem fors_step {G : GT} {tg : Tg} {it : Ex} {b : St} {env : Env} {h : Hh} {vs : List Vl} {r : R Oc} (w : evW G LOW it env h = .ok (.its vs) h) (k : forL (turnF G LOW tg b) vs env h = r) : evS G LOW (.fors tg it b) env h = r := by
  rw [ev_fors, w]
  exact k
theorem forL_cons {turn : Vl → Env → Hh → R Oc} {x : Vl} {xs : List Vl} {env env1 : Env} {h h1 : Hh} {r : R Oc} (e : turn x env h = .ok (.nx env1) h1) (k : forL turn xs env1 h1 = r) : forL turn (x :: xs) env h = r := by
  unfold forL
  rw [e]
  exact k
theorem turn_step {G : GT} {tg : Tg} {b : St} {x : Vl} {env env1 : Env} {h : Hh} {r : R Oc} (t : tgV tg x env = some env1) (k : evS G LOW b env1 h = r) : turnF G LOW tg b x env h = r := by
  unfold turnF
  rw [t]
  exact k
end Err
set_option Elab.async false
set_option linter.all false
set_option maxRecDepth 100000
set_option maxHeartbeats 1000000
namespace Err
open Law Mi
theorem range_iv : ∀ (n a : Nat), rangeL n a 1 = (List.range' a n).map iv
  | 0, _ => rfl
  | n + 1, a => by
    show Vl.int a :: rangeL n ((a : Int) + 1) 1 = _
    rw [List.range'_succ, List.map_cons, show ((a : Int) + 1) = ((a + 1 : Nat) : Int) from rfl, range_iv n]
    rfl
theorem range_iv0 (n : Nat) : rangeL n 0 1 = (List.range n).map iv := by
  rw [List.range_eq_range']
  exact range_iv n 0
section
variable {n : Nat} {h : Hh}
theorem o_min {a b : Nat} : bifV .min2 h [iv a, iv b] = some (iv (min a b)) := by
  show some (Vl.int (if ((b : Int) < (a : Int)) then (b : Int) else (a : Int))) = some (Vl.int ((min a b : Nat) : Int))
  congr 2
  split <;> omega
theorem range_ev {cf : CF} {G : GT} {as : Ex} {env : Env} {l : Nat} (hl : l < 1000000000) (e : evA G cf as env h = .ok [iv l] h) : evW G cf (.range as) env h = .ok (.its ((List.range l).map iv)) h := by
  have e1 : rangeL ((l : Int)).toNat 0 1 = (List.range l).map iv := by rw [Int.toNat_natCast, range_iv0]
  have hd : decide (((l : Nat) : Int).natAbs < 1000000000) = true := decide_eq_true (by omega)
  show bnd (evA G cf as env h) _ = _
  rw [e, bnd_ok']
  show (match decide (((l : Nat) : Int).natAbs < 1000000000) with
    | true => R.ok (Wk.its (rangeL ((l : Int)).toNat 0 1)) h
    | false => .bad) = _
  rw [hd, e1]
theorem q_vatP (ns : List Int) (s : Nat) : ∃ P : T3, LOW 43 [.scr (ns.map .int), iv s] h = .ok (.ref h.length) (h ++ [pb P]) := by
  obtain ⟨g, t, e⟩ := vat_a (n := 19) (h := h) (A1 := 181) (A2 := 67) (A3 := 10) (A4 := 55) (A5 := 6) (A6 := 2305843009213693693) (A7 := 97) (A8 := 613) (A9 := 59) (B1 := 19) (B2 := 16) rfl rfl rfl rfl rfl rfl rfl rfl rfl rfl rfl (by decide) (by decide) (by decide +kernel) (by decide +kernel) (by decide) (by decide) (by decide) (by decide) (by decide +kernel) (ns := ns) s
  exact ⟨(g, t, 0), e⟩
end
section
variable {G : GT} {cf : CF}
theorem forL_pre {α : Type} {turn : Vl → Env → Hh → R Oc} {g : α → Vl} (I : List α → Env → Hh → Prop) : ∀ {post pre xs : List α} {env : Env} {h : Hh}, xs = pre ++ post → I pre env h →
    (∀ pre x post, xs = pre ++ x :: post → ∀ env h, I pre env h → ∃ env' h', turn (g x) env h = .ok (.nx env') h' ∧ I (pre ++ [x]) env' h') → ∃ env' h', forL turn (post.map g) env h = .ok (.nx env') h' ∧ I xs env' h'
  | [], pre, xs, env, h, e, i, _ => ⟨env, h, rfl, by rw [e, List.append_nil]; exact i⟩
  | x :: post, pre, xs, env, h, e, i, k => by
    obtain ⟨env1, h1, e1, i1⟩ := k pre x post e env h i
    obtain ⟨env2, h2, e2, i2⟩ := forL_pre I (post := post) (pre := pre ++ [x]) (xs := xs) (by rw [e, List.append_assoc]; rfl) i1 k
    refine ⟨env2, h2, ?_, i2⟩
    show (match turn (g x) env h with
      | .ok (.nx env1) h1 => forL turn (post.map g) env1 h1
      | .ok (.ct env1) h1 => forL turn (post.map g) env1 h1
      | .ok (.bk env1) h1 => .ok (.nx env1) h1
      | .ok (.rt v) h1 => .ok (.rt v) h1
      | .exc c p h1 => .exc c p h1
      | .bad => .bad) = _
    rw [e1]
    exact e2
theorem for_pre {α : Type} {tg : Tg} {b : St} {g : α → Vl} {xs : List α} {env : Env} {h : Hh} (I : List α → Env → Hh → Prop) (i : I [] env h)
    (k : ∀ pre x post, xs = pre ++ x :: post → ∀ env h, I pre env h → ∃ env1 env' h', tgV tg (g x) env = some env1 ∧ evS G cf b env1 h = .ok (.nx env') h' ∧ I (pre ++ [x]) env' h') :
    ∃ env' h', forL (turnF G cf tg b) (xs.map g) env h = .ok (.nx env') h' ∧ I xs env' h' :=
  forL_pre I (pre := []) rfl i fun pre x post e env h i => by
    obtain ⟨env1, env', h', e1, e2, i2⟩ := k pre x post e env h i
    refine ⟨env', h', ?_, i2⟩
    unfold turnF
    rw [e1]
    exact e2
end
theorem spots (ns : List Int) {h : Hh} {G : GT} {cf : CF} {env : Env} (he : env[0]? = some (some (.scr (ns.map .int)))) : ∃ k, 1 ≤ k ∧ k ≤ 4 ∧ evW G cf (.range (.acons (.bif .max2 (.acons (.int 1) (.acons (.bif .min2 (.acons (.int 4) (.acons (.bif .len (.acons (.var 0) .anil)) .anil))) .anil))) .anil)) env h = .ok (.its ((List.range k).map iv)) h := by
  have e1 : bifV .len h [.scr (ns.map .int)] = some (iv ns.length) := scr_len ns
  have e3 : bifV .min2 h [iv 4, iv ns.length] = some (iv (min 4 ns.length)) := o_min
  have e2 : bifV .max2 h [iv 1, iv (min 4 ns.length)] = some (iv (max 1 (min 4 ns.length))) := by
    show some (Vl.int (if ((min 4 ns.length : Nat) : Int) > ((1 : Nat) : Int) then ((min 4 ns.length : Nat) : Int) else ((1 : Nat) : Int))) = some (Vl.int ((max 1 (min 4 ns.length) : Nat) : Int))
    congr 2
    split <;> omega
  refine ⟨max 1 (min 4 ns.length), by omega, by omega, ?_⟩
  exact range_ev (by omega) (by simp only [evE, evA, he, bnd_ok', lift_some, int1, e1, show Vl.int 4 = iv 4 from rfl, e3, e2])
theorem pails {G : GT} {b : St} {env0 : Env} {ns : List Int} (E : Option Vl → Option Vl → Env) (hE : env0 = E none none) (h1 : ∀ x y, (E x y)[0]? = some (some (.scr (ns.map .int))))
    (turn : ∀ (ts : List T3) (s : Nat) (x y : Option Vl), ts.length ≤ 3 → ∃ env1 P y', tgV (.n 1) (iv s) (E x y) = some env1 ∧ evS G LOW b env1 (ts.map pb) = .ok (.nx (E (some (iv s)) y')) (ts.map pb ++ [pb P])) :
    ∃ (x y : Option Vl) (ts : List T3), 1 ≤ ts.length ∧ ts.length ≤ 4 ∧ evS G LOW (.fors (.n 1) (.range (.acons (.bif .max2 (.acons (.int 1) (.acons (.bif .min2 (.acons (.int 4) (.acons (.bif .len (.acons (.var 0) .anil)) .anil))) .anil))) .anil)) b) env0 [] = .ok (.nx (E x y)) (ts.map pb) := by
  subst hE
  obtain ⟨k, k1, k4, ek⟩ := spots ns (h := []) (G := G) (cf := LOW) (h1 none none)
  obtain ⟨env', h', e, ts, x, y, rfl, rfl, hl⟩ := for_pre (G := G) (cf := LOW) (tg := .n 1) (b := b) (g := iv) (xs := List.range k) (env := E none none) (h := [])
    (fun pre env h' => ∃ (ts : List T3) (x y : Option Vl), env = E x y ∧ h' = ts.map pb ∧ ts.length = pre.length) ⟨[], none, none, rfl, rfl, rfl⟩
    (fun pre s post ex env h' i => by
      obtain ⟨ts, x, y, rfl, rfl, hl⟩ := i
      have hp : pre.length + post.length + 1 = k := by
        have := congrArg List.length ex
        rw [List.length_range, List.length_append, List.length_cons] at this
        omega
      obtain ⟨env1, P, y', e1, e2⟩ := turn ts s x y (by omega)
      exact ⟨env1, _, _, e1, e2, ts ++ [P], some (iv s), y', rfl, by rw [List.map_append]; rfl, by rw [List.length_append, List.length_append, hl]; rfl⟩)
  refine ⟨x, y, ts, by rw [hl, List.length_range]; exact k1, by rw [hl, List.length_range]; exact k4, ?_⟩
  rw [ev_fors, ek, bnd_ok']
  exact e
end Err
set_option Elab.async false
set_option linter.all false
set_option maxRecDepth 100000
set_option maxHeartbeats 1000000
namespace Err
open Law Mi
def turnC (G : GT) (cf : CF) (tg : Tg) (own : List Nat) (c e : Ex) (env : Env) (x : Vl) (h : Hh) : R (Option Vl) := match tgV tg x (wipeE env own) with
  | some env' => bnd (evC G cf c env' h) fun b h => match b with
    | true => bnd (evE G cf e env' h) fun y h => .ok (some y) h
    | false => .ok none h
  | none => .bad
section
variable {n : Nat} {h : Hh}
theorem q_wordsin (bs : List Nat) (k : Nat) (hl : bs.length ≤ 12) (hw : wfH h.length h = true) (hz : (spanF bs.reverse [0]).length ≤ line) : ∃ X, run GG FF (n + 2) 27 [.tup (bs.map Law.iv), Law.iv k] h = .ok (.lst X) h := by
  obtain ⟨ws, e0⟩ : ∃ ws, ws = spanF bs.reverse [0] := ⟨_, rfl⟩
  have sp := Law.r16 (n := n) (h := h) bs hl hw
  rw [← e0] at sp hz
  refine ⟨(ws.filter fun w => decide (wt w = k)).map Law.iv, Law.run_ret (d := f27) rfl rfl ?_⟩
  have key : compL (turnC GG (run GG FF (n + 1)) (.n 2) [2] (.sm (.cmp .eq (.call 4 (.acons (.var 2) .anil)) (.var 1))) (.var 2) [some (.tup (bs.map Law.iv)), some (Law.iv k), none]) (ws.map Law.iv) [] h = .ok ((ws.filter fun w => decide (wt w = k)).map Law.iv) h := by
    rw [Law.compL_filter (p := fun w => decide (wt w = k)) (k := Law.iv) (by simpa using hz) fun w _ => ?_, List.nil_append]
    unfold turnC
    have r := Law.r5 (n := n) (h := h) w
    have q := Law.iv_eq (h := h) (wt w) k
    simp only [tgV, wipeE, List.set_cons_zero, List.set_cons_succ, putE, evC, evE, evA, List.getElem?_cons_zero, List.getElem?_cons_succ, bnd_ok', lift_some, r, q]
    cases decide (wt w = k) with
    | true => rfl
    | false => rfl
  show bnd (bnd (bnd (bnd (bnd (evA GG (run GG FF (n + 1)) (.acons (.var 0) .anil) [some (.tup (bs.map Law.iv)), some (Law.iv k), none] h) fun xs h => run GG FF (n + 1) 14 xs h) fun x h => match x with
    | .tup xs => R.ok (Wk.its xs) h
    | .lst xs => R.ok (Wk.its xs) h
    | .scr xs => R.ok (Wk.its xs) h
    | .ref n => match h[n]? with
      | some (.lst _) => R.ok (Wk.live n) h
      | _ => R.bad
    | _ => R.bad) fun w h => walkC (turnC GG (run GG FF (n + 1)) (.n 2) [2] (.sm (.cmp .eq (.call 4 (.acons (.var 2) .anil)) (.var 1))) (.var 2) [some (.tup (bs.map Law.iv)), some (Law.iv k), none]) w h) fun xs h => R.ok (Vl.lst xs) h) (fun v h => R.ok (Oc.rt v) h) = _
  have ea : evA GG (run GG FF (n + 1)) (.acons (.var 0) .anil) [some (.tup (bs.map Law.iv)), some (Law.iv k), none] h = .ok [.tup (bs.map Law.iv)] h := rfl
  rw [ea, bnd_ok', sp, bnd_ok', bnd_ok']
  show bnd (bnd (compL _ _ _ _) _) _ = _
  rw [key]
  rfl
theorem disp_step {G : GT} {env : Env} {h : Hh} {i : Nat} {v : Vl} {e : Ex} (he : evE G LOW e env h = .ok v h) : evS G LOW (.set i (.th (.disp (.acons e .anil)))) env h = .ok (.nx (env.set i (some (.ref h.length)))) (h ++ [.lst [v]]) := by
  have one : decide ([v].length ≤ line) = true := decide_eq_true (by show 1 ≤ line; decide)
  simp only [evS, evE, evF, evA, he, bnd_ok', putE, one]
theorem comp4 {turn : Vl → Hh → R (Option Vl)} {a b c d : Vl} {h h1 h2 h3 h4 : Hh} (e1 : turn a h = .ok none h1) (e2 : turn b h1 = .ok none h2) (e3 : turn c h2 = .ok none h3) (e4 : turn d h3 = .ok none h4) : compL turn [a, b, c, d] [] h = .ok [] h4 := by
  simp only [compL, e1, e2, e3, e4, noX, bnd_ok']
end
end Err
set_option Elab.async false
set_option linter.all false
set_option maxRecDepth 100000
set_option maxHeartbeats 0
namespace Err
open Law Mi
abbrev G4 : GT := { GG with cg := run2 GG LOW FH 4 }
abbrev G5 : GT := { GG with cg := run2 GG LOW FH 5 }
def rsd : List Nat := [114, 97, 105, 115, 101, 100]
def NR (x : Vl) : List Nat := match reprV x with
  | some y => [110, 117, 109, 98, 101, 114, 32] ++ y
  | none => []
theorem kT0 (a b c P : T3) : ((SP a b c).map fun os => evS G4 LOW (.set 1 (.mk 0 (.acons (.int 5) (.acons (.tup (.acons (.int 7) (.acons (.int 25) .anil))) .anil)))) [some (.ref os.length), none, none, none, none, none, none, none, none, none, none, none, none, none] (os ++ pb P :: [])) = ((SP a b c).map fun os => (.ok (.nx [some (.ref os.length), some (.ins 0 [.tup [.int 25, .int 7], .int 5]), none, none, none, none, none, none, none, none, none, none, none, none]) (os ++ pb P :: []) : R Oc)) := by kernel_rfl
theorem tT0 (a b c P : T3) : ∀ os ∈ SP a b c,  evS G4 LOW (.set 1 (.mk 0 (.acons (.int 5) (.acons (.tup (.acons (.int 7) (.acons (.int 25) .anil))) .anil)))) [some (.ref os.length), none, none, none, none, none, none, none, none, none, none, none, none, none] (os ++ pb P :: []) = (.ok (.nx [some (.ref os.length), some (.ins 0 [.tup [.int 25, .int 7], .int 5]), none, none, none, none, none, none, none, none, none, none, none, none]) (os ++ pb P :: []) : R Oc) := fun os ho => all1 (kT0 a b c P) os ho
def LT1 : List Vl := [.non, (.int 0), (.tup [(.int 5), (.tup [(.int 7)])]), (.str [99, 111, 100, 101]), (.dct []), (.lst [(.ins 0 [.tup [.int 25, .int 7], .int 5])]), (.bl true)]
theorem eT1 (os : Hh) (_u : Vl) (h : Hh) : evE G4 LOW (.fz (.disp (.acons .non (.acons (.int 0) (.acons (.tup (.acons (.int 5) (.acons (.tup (.acons (.int 7) .anil)) .anil))) (.acons (.str [99, 111, 100, 101]) (.acons .dz (.acons (.fz (.disp (.acons (.var 1) .anil))) (.acons (.bl true) .anil))))))))) [some (.ref os.length), some (.ins 0 [.tup [.int 25, .int 7], .int 5]), none, none, none, none, none, none, none, none, none, none, none, none] h = .ok (.lst LT1) h := by kernel_rfl
def LT2 : List Vl := [.non, (.int (-1)), (.int 32), (.bl true), (.str [49]), (.tup [(.int 1)]), (.int 100000000000000000000000000000000000000000000000000000000000)]
theorem eT2 (os : Hh) (x2 : Vl) (h : Hh) : evE G4 LOW (.fz (.disp (.acons .non (.acons (.neg (.int 1)) (.acons (.int 32) (.acons (.bl true) (.acons (.str [49]) (.acons (.tup (.acons (.int 1) .anil)) (.acons (.bin .pow (.int 10) (.int 59)) .anil))))))))) [some (.ref os.length), some (.ins 0 [.tup [.int 25, .int 7], .int 5]), some (x2), none, none, none, none, none, none, none, none, none, none, none] h = .ok (.lst LT2) h := by kernel_rfl
def LT3 : List Vl := [.non, (.int (-1)), (.int 6), (.bl false), (.str [49]), (.tup [(.int 1)]), (.int 1000000000000000000000000000000000000000000000000000000000000)]
theorem eT3 (os : Hh) (x2 x3 : Vl) (h : Hh) : evE G4 LOW (.fz (.disp (.acons .non (.acons (.neg (.int 1)) (.acons (.int 6) (.acons (.bl false) (.acons (.str [49]) (.acons (.tup (.acons (.int 1) .anil)) (.acons (.bin .pow (.int 10) (.int 60)) .anil))))))))) [some (.ref os.length), some (.ins 0 [.tup [.int 25, .int 7], .int 5]), some (x2), some (x3), none, none, none, none, none, none, none, none, none, none] h = .ok (.lst LT3) h := by kernel_rfl
def LT4 : List Vl := [.non, (.int 0), (.int 25), (.int (-1)), (.bl true), (.str [53]), (.tup [(.int 5)]), (.int 1000000000000000000000000000000000000000000000000000000000000)]
theorem eT4 (os : Hh) (x2 x3 x4 : Vl) (h : Hh) : evE G4 LOW (.fz (.disp (.acons .non (.acons (.int 0) (.acons (.int 25) (.acons (.neg (.int 1)) (.acons (.bl true) (.acons (.str [53]) (.acons (.tup (.acons (.int 5) .anil)) (.acons (.bin .pow (.int 10) (.int 60)) .anil)))))))))) [some (.ref os.length), some (.ins 0 [.tup [.int 25, .int 7], .int 5]), some (x2), some (x3), some (x4), none, none, none, none, none, none, none, none, none] h = .ok (.lst LT4) h := by kernel_rfl
theorem kT5 (a b c P : T3) (x2 x3 x4 x5 : Vl) : ((SP a b c).map fun os => evS G4 LOW (.set 6 (.fz (.disp (.acons .non (.acons (.tup .anil) (.acons (.tup (.acons (.int 1) .anil)) (.acons (.fz (.disp (.acons (.int 1) (.acons (.int 0) (.acons (.int 1) .anil))))) (.acons (.tup (.acons (.int 1) (.acons (.bl true) .anil))) (.acons (.tup (.acons (.int 1) (.acons (.str [48]) .anil))) (.acons (.bin .mul (.tup (.acons (.int 1) .anil)) (.int 26)) (.acons (.tup (.acons (.int 1) (.acons (.bin .pow (.int 10) (.int 60)) .anil))) (.acons (.int 5) (.acons .dz (.acons (.tup (.acons (.int 1) (.acons .non .anil))) .anil)))))))))))))) [some (.ref os.length), some (.ins 0 [.tup [.int 25, .int 7], .int 5]), some (x2), some (x3), some (x4), some (x5), none, none, none, none, none, none, none, none] (os ++ pb P :: [])) = ((SP a b c).map fun os => (.ok (.nx [some (.ref os.length), some (.ins 0 [.tup [.int 25, .int 7], .int 5]), some (x2), some (x3), some (x4), some (x5), some (.lst [.non, (.tup []), (.tup [(.int 1)]), (.lst [(.int 1), (.int 0), (.int 1)]), (.tup [(.int 1), (.bl true)]), (.tup [(.int 1), (.str [48])]), (.tup [(.int 1), (.int 1), (.int 1), (.int 1), (.int 1), (.int 1), (.int 1), (.int 1), (.int 1), (.int 1), (.int 1), (.int 1), (.int 1), (.int 1), (.int 1), (.int 1), (.int 1), (.int 1), (.int 1), (.int 1), (.int 1), (.int 1), (.int 1), (.int 1), (.int 1), (.int 1)]), (.tup [(.int 1), (.int 1000000000000000000000000000000000000000000000000000000000000)]), (.int 5), (.dct []), (.tup [(.int 1), .non])]), none, none, none, none, none, none, none]) (os ++ pb P :: []) : R Oc)) := by kernel_rfl
theorem tT5 (a b c P : T3) (x2 x3 x4 x5 : Vl) : ∀ os ∈ SP a b c,  evS G4 LOW (.set 6 (.fz (.disp (.acons .non (.acons (.tup .anil) (.acons (.tup (.acons (.int 1) .anil)) (.acons (.fz (.disp (.acons (.int 1) (.acons (.int 0) (.acons (.int 1) .anil))))) (.acons (.tup (.acons (.int 1) (.acons (.bl true) .anil))) (.acons (.tup (.acons (.int 1) (.acons (.str [48]) .anil))) (.acons (.bin .mul (.tup (.acons (.int 1) .anil)) (.int 26)) (.acons (.tup (.acons (.int 1) (.acons (.bin .pow (.int 10) (.int 60)) .anil))) (.acons (.int 5) (.acons .dz (.acons (.tup (.acons (.int 1) (.acons .non .anil))) .anil)))))))))))))) [some (.ref os.length), some (.ins 0 [.tup [.int 25, .int 7], .int 5]), some (x2), some (x3), some (x4), some (x5), none, none, none, none, none, none, none, none] (os ++ pb P :: []) = (.ok (.nx [some (.ref os.length), some (.ins 0 [.tup [.int 25, .int 7], .int 5]), some (x2), some (x3), some (x4), some (x5), some (.lst [.non, (.tup []), (.tup [(.int 1)]), (.lst [(.int 1), (.int 0), (.int 1)]), (.tup [(.int 1), (.bl true)]), (.tup [(.int 1), (.str [48])]), (.tup [(.int 1), (.int 1), (.int 1), (.int 1), (.int 1), (.int 1), (.int 1), (.int 1), (.int 1), (.int 1), (.int 1), (.int 1), (.int 1), (.int 1), (.int 1), (.int 1), (.int 1), (.int 1), (.int 1), (.int 1), (.int 1), (.int 1), (.int 1), (.int 1), (.int 1), (.int 1)]), (.tup [(.int 1), (.int 1000000000000000000000000000000000000000000000000000000000000)]), (.int 5), (.dct []), (.tup [(.int 1), .non])]), none, none, none, none, none, none, none]) (os ++ pb P :: []) : R Oc) := fun os ho => all1 (kT5 a b c P x2 x3 x4 x5) os ho
def LT6 : List Vl := [.non, (.tup []), (.tup [(.int 1)]), (.lst [(.int 1), (.int 0), (.int 1)]), (.tup [(.int 1), (.bl true)]), (.tup [(.int 1), (.str [48])]), (.tup [(.int 1), (.int 1), (.int 1), (.int 1), (.int 1), (.int 1), (.int 1), (.int 1), (.int 1), (.int 1), (.int 1), (.int 1), (.int 1), (.int 1), (.int 1), (.int 1), (.int 1), (.int 1), (.int 1), (.int 1), (.int 1), (.int 1), (.int 1), (.int 1), (.int 1), (.int 1)]), (.tup [(.int 1), (.int 1000000000000000000000000000000000000000000000000000000000000)]), (.int 5), (.dct []), (.tup [(.int 1), .non])]
theorem eT6 (os : Hh) (x2 x3 x4 x5 : Vl) (h : Hh) : evE G4 LOW (.var 6) [some (.ref os.length), some (.ins 0 [.tup [.int 25, .int 7], .int 5]), some (x2), some (x3), some (x4), some (x5), some (.lst [.non, (.tup []), (.tup [(.int 1)]), (.lst [(.int 1), (.int 0), (.int 1)]), (.tup [(.int 1), (.bl true)]), (.tup [(.int 1), (.str [48])]), (.tup [(.int 1), (.int 1), (.int 1), (.int 1), (.int 1), (.int 1), (.int 1), (.int 1), (.int 1), (.int 1), (.int 1), (.int 1), (.int 1), (.int 1), (.int 1), (.int 1), (.int 1), (.int 1), (.int 1), (.int 1), (.int 1), (.int 1), (.int 1), (.int 1), (.int 1), (.int 1)]), (.tup [(.int 1), (.int 1000000000000000000000000000000000000000000000000000000000000)]), (.int 5), (.dct []), (.tup [(.int 1), .non])]), none, none, none, none, none, none, none] h = .ok (.lst LT6) h := by kernel_rfl
theorem kT7 (a b c P : T3) (x2 x3 x4 x5 x6 : Vl) : ((SP a b c).map fun os => evS G4 LOW (.par [10, 9] (.acons (.th (.disp .anil)) (.acons (.fz (.disp .anil)) .anil))) [some (.ref os.length), some (.ins 0 [.tup [.int 25, .int 7], .int 5]), some (x2), some (x3), some (x4), some (x5), some (x6), none, none, none, none, none, none, none] (os ++ pb P :: [])) = ((SP a b c).map fun os => (.ok (.nx [some (.ref os.length), some (.ins 0 [.tup [.int 25, .int 7], .int 5]), some (x2), some (x3), some (x4), some (x5), some (x6), none, none, some (.lst []), some (.ref (os.length + 1)), none, none, none]) (os ++ pb P :: [.lst []]) : R Oc)) := by kernel_rfl
theorem tT7 (a b c P : T3) (x2 x3 x4 x5 x6 : Vl) : ∀ os ∈ SP a b c,  evS G4 LOW (.par [10, 9] (.acons (.th (.disp .anil)) (.acons (.fz (.disp .anil)) .anil))) [some (.ref os.length), some (.ins 0 [.tup [.int 25, .int 7], .int 5]), some (x2), some (x3), some (x4), some (x5), some (x6), none, none, none, none, none, none, none] (os ++ pb P :: []) = (.ok (.nx [some (.ref os.length), some (.ins 0 [.tup [.int 25, .int 7], .int 5]), some (x2), some (x3), some (x4), some (x5), some (x6), none, none, some (.lst []), some (.ref (os.length + 1)), none, none, none]) (os ++ pb P :: [.lst []]) : R Oc) := fun os ho => all1 (kT7 a b c P x2 x3 x4 x5 x6) os ho
theorem kTw8 (a b c P : T3) (x2 x3 x4 x5 x6 : Vl) : ((SP a b c).map fun os => evW G4 LOW (.over (.tup (.acons (.gl 46) (.acons (.gl 47) (.acons (.gl 50) .anil))))) [some (.ref os.length), some (.ins 0 [.tup [.int 25, .int 7], .int 5]), some (x2), some (x3), some (x4), some (x5), some (x6), none, none, some (.lst []), some (.ref (os.length + 1)), none, none, none] (os ++ pb P :: [.lst []])) = ((SP a b c).map fun os => (.ok (.its [.fn 35, .fn 36, .fn 39]) (os ++ pb P :: [.lst []]) : R Wk)) := by kernel_rfl
theorem tTw8 (a b c P : T3) (x2 x3 x4 x5 x6 : Vl) : ∀ os ∈ SP a b c,  evW G4 LOW (.over (.tup (.acons (.gl 46) (.acons (.gl 47) (.acons (.gl 50) .anil))))) [some (.ref os.length), some (.ins 0 [.tup [.int 25, .int 7], .int 5]), some (x2), some (x3), some (x4), some (x5), some (x6), none, none, some (.lst []), some (.ref (os.length + 1)), none, none, none] (os ++ pb P :: [.lst []]) = (.ok (.its [.fn 35, .fn 36, .fn 39]) (os ++ pb P :: [.lst []]) : R Wk) := fun os ho => all1 (kTw8 a b c P x2 x3 x4 x5 x6) os ho
theorem kTq1 (a b c P : T3) (x3 x4 x5 x6 : Vl) : ((SP a b c).map fun os => LT1.map fun x2 => evS G4 LOW (.ex (.mth .append (.var 10) (.acons (.lamc 46 (.callv 7 (.acons (.var 2) .anil))) .anil))) [some (.ref os.length), some (.ins 0 [.tup [.int 25, .int 7], .int 5]), some (x2), some (x3), some (x4), some (x5), some (x6), some (.fn 35), none, some (.lst []), some (.ref (os.length + 1)), none, none, none] (os ++ pb P :: [.lst []])) = ((SP a b c).map fun os => LT1.map fun x2 => (.ok (.nx [some (.ref os.length), some (.ins 0 [.tup [.int 25, .int 7], .int 5]), some (x2), some (x3), some (x4), some (x5), some (x6), some (.fn 35), none, some (.lst []), some (.ref (os.length + 1)), none, none, none]) (os ++ pb P :: [.lst [.tup [.str rsd, (.str [99, 111, 100, 101])]]]) : R Oc)) := by kernel_rfl
theorem tTq1 (a b c P : T3) (x3 x4 x5 x6 : Vl) : ∀ os ∈ SP a b c, ∀ x2 ∈ LT1, evS G4 LOW (.ex (.mth .append (.var 10) (.acons (.lamc 46 (.callv 7 (.acons (.var 2) .anil))) .anil))) [some (.ref os.length), some (.ins 0 [.tup [.int 25, .int 7], .int 5]), some (x2), some (x3), some (x4), some (x5), some (x6), some (.fn 35), none, some (.lst []), some (.ref (os.length + 1)), none, none, none] (os ++ pb P :: [.lst []]) = (.ok (.nx [some (.ref os.length), some (.ins 0 [.tup [.int 25, .int 7], .int 5]), some (x2), some (x3), some (x4), some (x5), some (x6), some (.fn 35), none, some (.lst []), some (.ref (os.length + 1)), none, none, none]) (os ++ pb P :: [.lst [.tup [.str rsd, (.str [99, 111, 100, 101])]]]) : R Oc) := fun os ho x2 hx2 => all1 (all1 (kTq1 a b c P x3 x4 x5 x6) os ho) x2 hx2
theorem kTq2 (a b c P : T3) (x2 x3 x4 x5 x6 : Vl) : ((SP a b c).map fun os => evS G4 LOW (.ex (.mth .append (.var 10) (.acons (.lamc 46 (.callv 7 (.acons (.var 1) .anil))) .anil))) [some (.ref os.length), some (.ins 0 [.tup [.int 25, .int 7], .int 5]), some (x2), some (x3), some (x4), some (x5), some (x6), some (.fn 35), none, some (.lst []), some (.ref (os.length + 1)), none, none, none] (os ++ pb P :: [.lst [.tup [.str rsd, (.str [99, 111, 100, 101])]]])) = ((SP a b c).map fun os => (.ok (.nx [some (.ref os.length), some (.ins 0 [.tup [.int 25, .int 7], .int 5]), some (x2), some (x3), some (x4), some (x5), some (x6), some (.fn 35), none, some (.lst []), some (.ref (os.length + 1)), none, none, none]) (os ++ pb P :: [.lst [.tup [.str rsd, (.str [99, 111, 100, 101])], (.str [116, 111, 108, 100])]]) : R Oc)) := by kernel_rfl
theorem tTq2 (a b c P : T3) (x2 x3 x4 x5 x6 : Vl) : ∀ os ∈ SP a b c,  evS G4 LOW (.ex (.mth .append (.var 10) (.acons (.lamc 46 (.callv 7 (.acons (.var 1) .anil))) .anil))) [some (.ref os.length), some (.ins 0 [.tup [.int 25, .int 7], .int 5]), some (x2), some (x3), some (x4), some (x5), some (x6), some (.fn 35), none, some (.lst []), some (.ref (os.length + 1)), none, none, none] (os ++ pb P :: [.lst [.tup [.str rsd, (.str [99, 111, 100, 101])]]]) = (.ok (.nx [some (.ref os.length), some (.ins 0 [.tup [.int 25, .int 7], .int 5]), some (x2), some (x3), some (x4), some (x5), some (x6), some (.fn 35), none, some (.lst []), some (.ref (os.length + 1)), none, none, none]) (os ++ pb P :: [.lst [.tup [.str rsd, (.str [99, 111, 100, 101])], (.str [116, 111, 108, 100])]]) : R Oc) := fun os ho => all1 (kTq2 a b c P x2 x3 x4 x5 x6) os ho
theorem kTq3 (a b c P : T3) (x2 x3 x4 x5 x6 : Vl) : ((SP a b c).map fun os => evS G4 LOW (.set 9 (.fz (.cat (.var 9) (.fz (.disp (.acons (.str [99, 111, 100, 101]) (.acons (.str [116, 111, 108, 100]) .anil))))))) [some (.ref os.length), some (.ins 0 [.tup [.int 25, .int 7], .int 5]), some (x2), some (x3), some (x4), some (x5), some (x6), some (.fn 35), none, some (.lst []), some (.ref (os.length + 1)), none, none, none] (os ++ pb P :: [.lst [.tup [.str rsd, (.str [99, 111, 100, 101])], (.str [116, 111, 108, 100])]])) = ((SP a b c).map fun os => (.ok (.nx [some (.ref os.length), some (.ins 0 [.tup [.int 25, .int 7], .int 5]), some (x2), some (x3), some (x4), some (x5), some (x6), some (.fn 35), none, some (.lst [(.str [99, 111, 100, 101]), (.str [116, 111, 108, 100])]), some (.ref (os.length + 1)), none, none, none]) (os ++ pb P :: [.lst [.tup [.str rsd, (.str [99, 111, 100, 101])], (.str [116, 111, 108, 100])]]) : R Oc)) := by kernel_rfl
theorem tTq3 (a b c P : T3) (x2 x3 x4 x5 x6 : Vl) : ∀ os ∈ SP a b c,  evS G4 LOW (.set 9 (.fz (.cat (.var 9) (.fz (.disp (.acons (.str [99, 111, 100, 101]) (.acons (.str [116, 111, 108, 100]) .anil))))))) [some (.ref os.length), some (.ins 0 [.tup [.int 25, .int 7], .int 5]), some (x2), some (x3), some (x4), some (x5), some (x6), some (.fn 35), none, some (.lst []), some (.ref (os.length + 1)), none, none, none] (os ++ pb P :: [.lst [.tup [.str rsd, (.str [99, 111, 100, 101])], (.str [116, 111, 108, 100])]]) = (.ok (.nx [some (.ref os.length), some (.ins 0 [.tup [.int 25, .int 7], .int 5]), some (x2), some (x3), some (x4), some (x5), some (x6), some (.fn 35), none, some (.lst [(.str [99, 111, 100, 101]), (.str [116, 111, 108, 100])]), some (.ref (os.length + 1)), none, none, none]) (os ++ pb P :: [.lst [.tup [.str rsd, (.str [99, 111, 100, 101])], (.str [116, 111, 108, 100])]]) : R Oc) := fun os ho => all1 (kTq3 a b c P x2 x3 x4 x5 x6) os ho
theorem kTq4 (a b c P : T3) (x3 x4 x5 x6 : Vl) : ((SP a b c).map fun os => LT1.map fun x2 => evS G4 LOW (.ex (.mth .append (.var 10) (.acons (.lamc 46 (.callv 7 (.acons (.var 2) .anil))) .anil))) [some (.ref os.length), some (.ins 0 [.tup [.int 25, .int 7], .int 5]), some (x2), some (x3), some (x4), some (x5), some (x6), some (.fn 36), none, some (.lst [(.str [99, 111, 100, 101]), (.str [116, 111, 108, 100])]), some (.ref (os.length + 1)), none, none, none] (os ++ pb P :: [.lst [.tup [.str rsd, (.str [99, 111, 100, 101])], (.str [116, 111, 108, 100])]])) = ((SP a b c).map fun os => LT1.map fun x2 => (.ok (.nx [some (.ref os.length), some (.ins 0 [.tup [.int 25, .int 7], .int 5]), some (x2), some (x3), some (x4), some (x5), some (x6), some (.fn 36), none, some (.lst [(.str [99, 111, 100, 101]), (.str [116, 111, 108, 100])]), some (.ref (os.length + 1)), none, none, none]) (os ++ pb P :: [.lst [.tup [.str rsd, (.str [99, 111, 100, 101])], (.str [116, 111, 108, 100]), .tup [.str rsd, (.str [99, 111, 100, 101])]]]) : R Oc)) := by kernel_rfl
theorem tTq4 (a b c P : T3) (x3 x4 x5 x6 : Vl) : ∀ os ∈ SP a b c, ∀ x2 ∈ LT1, evS G4 LOW (.ex (.mth .append (.var 10) (.acons (.lamc 46 (.callv 7 (.acons (.var 2) .anil))) .anil))) [some (.ref os.length), some (.ins 0 [.tup [.int 25, .int 7], .int 5]), some (x2), some (x3), some (x4), some (x5), some (x6), some (.fn 36), none, some (.lst [(.str [99, 111, 100, 101]), (.str [116, 111, 108, 100])]), some (.ref (os.length + 1)), none, none, none] (os ++ pb P :: [.lst [.tup [.str rsd, (.str [99, 111, 100, 101])], (.str [116, 111, 108, 100])]]) = (.ok (.nx [some (.ref os.length), some (.ins 0 [.tup [.int 25, .int 7], .int 5]), some (x2), some (x3), some (x4), some (x5), some (x6), some (.fn 36), none, some (.lst [(.str [99, 111, 100, 101]), (.str [116, 111, 108, 100])]), some (.ref (os.length + 1)), none, none, none]) (os ++ pb P :: [.lst [.tup [.str rsd, (.str [99, 111, 100, 101])], (.str [116, 111, 108, 100]), .tup [.str rsd, (.str [99, 111, 100, 101])]]]) : R Oc) := fun os ho x2 hx2 => all1 (all1 (kTq4 a b c P x3 x4 x5 x6) os ho) x2 hx2
theorem kTq5 (a b c P : T3) (x2 x3 x4 x5 x6 : Vl) : ((SP a b c).map fun os => evS G4 LOW (.ex (.mth .append (.var 10) (.acons (.lamc 46 (.callv 7 (.acons (.var 1) .anil))) .anil))) [some (.ref os.length), some (.ins 0 [.tup [.int 25, .int 7], .int 5]), some (x2), some (x3), some (x4), some (x5), some (x6), some (.fn 36), none, some (.lst [(.str [99, 111, 100, 101]), (.str [116, 111, 108, 100])]), some (.ref (os.length + 1)), none, none, none] (os ++ pb P :: [.lst [.tup [.str rsd, (.str [99, 111, 100, 101])], (.str [116, 111, 108, 100]), .tup [.str rsd, (.str [99, 111, 100, 101])]]])) = ((SP a b c).map fun os => (.ok (.nx [some (.ref os.length), some (.ins 0 [.tup [.int 25, .int 7], .int 5]), some (x2), some (x3), some (x4), some (x5), some (x6), some (.fn 36), none, some (.lst [(.str [99, 111, 100, 101]), (.str [116, 111, 108, 100])]), some (.ref (os.length + 1)), none, none, none]) (os ++ pb P :: [.lst [.tup [.str rsd, (.str [99, 111, 100, 101])], (.str [116, 111, 108, 100]), .tup [.str rsd, (.str [99, 111, 100, 101])], (.str [116, 111, 108, 100])]]) : R Oc)) := by kernel_rfl
theorem tTq5 (a b c P : T3) (x2 x3 x4 x5 x6 : Vl) : ∀ os ∈ SP a b c,  evS G4 LOW (.ex (.mth .append (.var 10) (.acons (.lamc 46 (.callv 7 (.acons (.var 1) .anil))) .anil))) [some (.ref os.length), some (.ins 0 [.tup [.int 25, .int 7], .int 5]), some (x2), some (x3), some (x4), some (x5), some (x6), some (.fn 36), none, some (.lst [(.str [99, 111, 100, 101]), (.str [116, 111, 108, 100])]), some (.ref (os.length + 1)), none, none, none] (os ++ pb P :: [.lst [.tup [.str rsd, (.str [99, 111, 100, 101])], (.str [116, 111, 108, 100]), .tup [.str rsd, (.str [99, 111, 100, 101])]]]) = (.ok (.nx [some (.ref os.length), some (.ins 0 [.tup [.int 25, .int 7], .int 5]), some (x2), some (x3), some (x4), some (x5), some (x6), some (.fn 36), none, some (.lst [(.str [99, 111, 100, 101]), (.str [116, 111, 108, 100])]), some (.ref (os.length + 1)), none, none, none]) (os ++ pb P :: [.lst [.tup [.str rsd, (.str [99, 111, 100, 101])], (.str [116, 111, 108, 100]), .tup [.str rsd, (.str [99, 111, 100, 101])], (.str [116, 111, 108, 100])]]) : R Oc) := fun os ho => all1 (kTq5 a b c P x2 x3 x4 x5 x6) os ho
theorem kTq6 (a b c P : T3) (x2 x3 x4 x5 x6 : Vl) : ((SP a b c).map fun os => evS G4 LOW (.set 9 (.fz (.cat (.var 9) (.fz (.disp (.acons (.str [99, 111, 100, 101]) (.acons (.str [116, 111, 108, 100]) .anil))))))) [some (.ref os.length), some (.ins 0 [.tup [.int 25, .int 7], .int 5]), some (x2), some (x3), some (x4), some (x5), some (x6), some (.fn 36), none, some (.lst [(.str [99, 111, 100, 101]), (.str [116, 111, 108, 100])]), some (.ref (os.length + 1)), none, none, none] (os ++ pb P :: [.lst [.tup [.str rsd, (.str [99, 111, 100, 101])], (.str [116, 111, 108, 100]), .tup [.str rsd, (.str [99, 111, 100, 101])], (.str [116, 111, 108, 100])]])) = ((SP a b c).map fun os => (.ok (.nx [some (.ref os.length), some (.ins 0 [.tup [.int 25, .int 7], .int 5]), some (x2), some (x3), some (x4), some (x5), some (x6), some (.fn 36), none, some (.lst [(.str [99, 111, 100, 101]), (.str [116, 111, 108, 100]), (.str [99, 111, 100, 101]), (.str [116, 111, 108, 100])]), some (.ref (os.length + 1)), none, none, none]) (os ++ pb P :: [.lst [.tup [.str rsd, (.str [99, 111, 100, 101])], (.str [116, 111, 108, 100]), .tup [.str rsd, (.str [99, 111, 100, 101])], (.str [116, 111, 108, 100])]]) : R Oc)) := by kernel_rfl
theorem tTq6 (a b c P : T3) (x2 x3 x4 x5 x6 : Vl) : ∀ os ∈ SP a b c,  evS G4 LOW (.set 9 (.fz (.cat (.var 9) (.fz (.disp (.acons (.str [99, 111, 100, 101]) (.acons (.str [116, 111, 108, 100]) .anil))))))) [some (.ref os.length), some (.ins 0 [.tup [.int 25, .int 7], .int 5]), some (x2), some (x3), some (x4), some (x5), some (x6), some (.fn 36), none, some (.lst [(.str [99, 111, 100, 101]), (.str [116, 111, 108, 100])]), some (.ref (os.length + 1)), none, none, none] (os ++ pb P :: [.lst [.tup [.str rsd, (.str [99, 111, 100, 101])], (.str [116, 111, 108, 100]), .tup [.str rsd, (.str [99, 111, 100, 101])], (.str [116, 111, 108, 100])]]) = (.ok (.nx [some (.ref os.length), some (.ins 0 [.tup [.int 25, .int 7], .int 5]), some (x2), some (x3), some (x4), some (x5), some (x6), some (.fn 36), none, some (.lst [(.str [99, 111, 100, 101]), (.str [116, 111, 108, 100]), (.str [99, 111, 100, 101]), (.str [116, 111, 108, 100])]), some (.ref (os.length + 1)), none, none, none]) (os ++ pb P :: [.lst [.tup [.str rsd, (.str [99, 111, 100, 101])], (.str [116, 111, 108, 100]), .tup [.str rsd, (.str [99, 111, 100, 101])], (.str [116, 111, 108, 100])]]) : R Oc) := fun os ho => all1 (kTq6 a b c P x2 x3 x4 x5 x6) os ho
theorem kTq7 (a b c P : T3) (x3 x4 x5 x6 : Vl) : ((SP a b c).map fun os => LT1.map fun x2 => evS G4 LOW (.ex (.mth .append (.var 10) (.acons (.lamc 46 (.callv 7 (.acons (.var 2) .anil))) .anil))) [some (.ref os.length), some (.ins 0 [.tup [.int 25, .int 7], .int 5]), some (x2), some (x3), some (x4), some (x5), some (x6), some (.fn 39), none, some (.lst [(.str [99, 111, 100, 101]), (.str [116, 111, 108, 100]), (.str [99, 111, 100, 101]), (.str [116, 111, 108, 100])]), some (.ref (os.length + 1)), none, none, none] (os ++ pb P :: [.lst [.tup [.str rsd, (.str [99, 111, 100, 101])], (.str [116, 111, 108, 100]), .tup [.str rsd, (.str [99, 111, 100, 101])], (.str [116, 111, 108, 100])]])) = ((SP a b c).map fun os => LT1.map fun x2 => (.ok (.nx [some (.ref os.length), some (.ins 0 [.tup [.int 25, .int 7], .int 5]), some (x2), some (x3), some (x4), some (x5), some (x6), some (.fn 39), none, some (.lst [(.str [99, 111, 100, 101]), (.str [116, 111, 108, 100]), (.str [99, 111, 100, 101]), (.str [116, 111, 108, 100])]), some (.ref (os.length + 1)), none, none, none]) (os ++ pb P :: [.lst [.tup [.str rsd, (.str [99, 111, 100, 101])], (.str [116, 111, 108, 100]), .tup [.str rsd, (.str [99, 111, 100, 101])], (.str [116, 111, 108, 100]), .tup [.str rsd, (.str [99, 111, 100, 101])]]]) : R Oc)) := by kernel_rfl
theorem tTq7 (a b c P : T3) (x3 x4 x5 x6 : Vl) : ∀ os ∈ SP a b c, ∀ x2 ∈ LT1, evS G4 LOW (.ex (.mth .append (.var 10) (.acons (.lamc 46 (.callv 7 (.acons (.var 2) .anil))) .anil))) [some (.ref os.length), some (.ins 0 [.tup [.int 25, .int 7], .int 5]), some (x2), some (x3), some (x4), some (x5), some (x6), some (.fn 39), none, some (.lst [(.str [99, 111, 100, 101]), (.str [116, 111, 108, 100]), (.str [99, 111, 100, 101]), (.str [116, 111, 108, 100])]), some (.ref (os.length + 1)), none, none, none] (os ++ pb P :: [.lst [.tup [.str rsd, (.str [99, 111, 100, 101])], (.str [116, 111, 108, 100]), .tup [.str rsd, (.str [99, 111, 100, 101])], (.str [116, 111, 108, 100])]]) = (.ok (.nx [some (.ref os.length), some (.ins 0 [.tup [.int 25, .int 7], .int 5]), some (x2), some (x3), some (x4), some (x5), some (x6), some (.fn 39), none, some (.lst [(.str [99, 111, 100, 101]), (.str [116, 111, 108, 100]), (.str [99, 111, 100, 101]), (.str [116, 111, 108, 100])]), some (.ref (os.length + 1)), none, none, none]) (os ++ pb P :: [.lst [.tup [.str rsd, (.str [99, 111, 100, 101])], (.str [116, 111, 108, 100]), .tup [.str rsd, (.str [99, 111, 100, 101])], (.str [116, 111, 108, 100]), .tup [.str rsd, (.str [99, 111, 100, 101])]]]) : R Oc) := fun os ho x2 hx2 => all1 (all1 (kTq7 a b c P x3 x4 x5 x6) os ho) x2 hx2
theorem kTq8 (a b c P : T3) (x2 x3 x4 x5 x6 : Vl) : ((SP a b c).map fun os => evS G4 LOW (.ex (.mth .append (.var 10) (.acons (.lamc 46 (.callv 7 (.acons (.var 1) .anil))) .anil))) [some (.ref os.length), some (.ins 0 [.tup [.int 25, .int 7], .int 5]), some (x2), some (x3), some (x4), some (x5), some (x6), some (.fn 39), none, some (.lst [(.str [99, 111, 100, 101]), (.str [116, 111, 108, 100]), (.str [99, 111, 100, 101]), (.str [116, 111, 108, 100])]), some (.ref (os.length + 1)), none, none, none] (os ++ pb P :: [.lst [.tup [.str rsd, (.str [99, 111, 100, 101])], (.str [116, 111, 108, 100]), .tup [.str rsd, (.str [99, 111, 100, 101])], (.str [116, 111, 108, 100]), .tup [.str rsd, (.str [99, 111, 100, 101])]]])) = ((SP a b c).map fun os => (.ok (.nx [some (.ref os.length), some (.ins 0 [.tup [.int 25, .int 7], .int 5]), some (x2), some (x3), some (x4), some (x5), some (x6), some (.fn 39), none, some (.lst [(.str [99, 111, 100, 101]), (.str [116, 111, 108, 100]), (.str [99, 111, 100, 101]), (.str [116, 111, 108, 100])]), some (.ref (os.length + 1)), none, none, none]) (os ++ pb P :: [.lst [.tup [.str rsd, (.str [99, 111, 100, 101])], (.str [116, 111, 108, 100]), .tup [.str rsd, (.str [99, 111, 100, 101])], (.str [116, 111, 108, 100]), .tup [.str rsd, (.str [99, 111, 100, 101])], (.str [116, 111, 108, 100])]]) : R Oc)) := by kernel_rfl
theorem tTq8 (a b c P : T3) (x2 x3 x4 x5 x6 : Vl) : ∀ os ∈ SP a b c,  evS G4 LOW (.ex (.mth .append (.var 10) (.acons (.lamc 46 (.callv 7 (.acons (.var 1) .anil))) .anil))) [some (.ref os.length), some (.ins 0 [.tup [.int 25, .int 7], .int 5]), some (x2), some (x3), some (x4), some (x5), some (x6), some (.fn 39), none, some (.lst [(.str [99, 111, 100, 101]), (.str [116, 111, 108, 100]), (.str [99, 111, 100, 101]), (.str [116, 111, 108, 100])]), some (.ref (os.length + 1)), none, none, none] (os ++ pb P :: [.lst [.tup [.str rsd, (.str [99, 111, 100, 101])], (.str [116, 111, 108, 100]), .tup [.str rsd, (.str [99, 111, 100, 101])], (.str [116, 111, 108, 100]), .tup [.str rsd, (.str [99, 111, 100, 101])]]]) = (.ok (.nx [some (.ref os.length), some (.ins 0 [.tup [.int 25, .int 7], .int 5]), some (x2), some (x3), some (x4), some (x5), some (x6), some (.fn 39), none, some (.lst [(.str [99, 111, 100, 101]), (.str [116, 111, 108, 100]), (.str [99, 111, 100, 101]), (.str [116, 111, 108, 100])]), some (.ref (os.length + 1)), none, none, none]) (os ++ pb P :: [.lst [.tup [.str rsd, (.str [99, 111, 100, 101])], (.str [116, 111, 108, 100]), .tup [.str rsd, (.str [99, 111, 100, 101])], (.str [116, 111, 108, 100]), .tup [.str rsd, (.str [99, 111, 100, 101])], (.str [116, 111, 108, 100])]]) : R Oc) := fun os ho => all1 (kTq8 a b c P x2 x3 x4 x5 x6) os ho
theorem kTq9 (a b c P : T3) (x2 x3 x4 x5 x6 : Vl) : ((SP a b c).map fun os => evS G4 LOW (.set 9 (.fz (.cat (.var 9) (.fz (.disp (.acons (.str [99, 111, 100, 101]) (.acons (.str [116, 111, 108, 100]) .anil))))))) [some (.ref os.length), some (.ins 0 [.tup [.int 25, .int 7], .int 5]), some (x2), some (x3), some (x4), some (x5), some (x6), some (.fn 39), none, some (.lst [(.str [99, 111, 100, 101]), (.str [116, 111, 108, 100]), (.str [99, 111, 100, 101]), (.str [116, 111, 108, 100])]), some (.ref (os.length + 1)), none, none, none] (os ++ pb P :: [.lst [.tup [.str rsd, (.str [99, 111, 100, 101])], (.str [116, 111, 108, 100]), .tup [.str rsd, (.str [99, 111, 100, 101])], (.str [116, 111, 108, 100]), .tup [.str rsd, (.str [99, 111, 100, 101])], (.str [116, 111, 108, 100])]])) = ((SP a b c).map fun os => (.ok (.nx [some (.ref os.length), some (.ins 0 [.tup [.int 25, .int 7], .int 5]), some (x2), some (x3), some (x4), some (x5), some (x6), some (.fn 39), none, some (.lst [(.str [99, 111, 100, 101]), (.str [116, 111, 108, 100]), (.str [99, 111, 100, 101]), (.str [116, 111, 108, 100]), (.str [99, 111, 100, 101]), (.str [116, 111, 108, 100])]), some (.ref (os.length + 1)), none, none, none]) (os ++ pb P :: [.lst [.tup [.str rsd, (.str [99, 111, 100, 101])], (.str [116, 111, 108, 100]), .tup [.str rsd, (.str [99, 111, 100, 101])], (.str [116, 111, 108, 100]), .tup [.str rsd, (.str [99, 111, 100, 101])], (.str [116, 111, 108, 100])]]) : R Oc)) := by kernel_rfl
theorem tTq9 (a b c P : T3) (x2 x3 x4 x5 x6 : Vl) : ∀ os ∈ SP a b c,  evS G4 LOW (.set 9 (.fz (.cat (.var 9) (.fz (.disp (.acons (.str [99, 111, 100, 101]) (.acons (.str [116, 111, 108, 100]) .anil))))))) [some (.ref os.length), some (.ins 0 [.tup [.int 25, .int 7], .int 5]), some (x2), some (x3), some (x4), some (x5), some (x6), some (.fn 39), none, some (.lst [(.str [99, 111, 100, 101]), (.str [116, 111, 108, 100]), (.str [99, 111, 100, 101]), (.str [116, 111, 108, 100])]), some (.ref (os.length + 1)), none, none, none] (os ++ pb P :: [.lst [.tup [.str rsd, (.str [99, 111, 100, 101])], (.str [116, 111, 108, 100]), .tup [.str rsd, (.str [99, 111, 100, 101])], (.str [116, 111, 108, 100]), .tup [.str rsd, (.str [99, 111, 100, 101])], (.str [116, 111, 108, 100])]]) = (.ok (.nx [some (.ref os.length), some (.ins 0 [.tup [.int 25, .int 7], .int 5]), some (x2), some (x3), some (x4), some (x5), some (x6), some (.fn 39), none, some (.lst [(.str [99, 111, 100, 101]), (.str [116, 111, 108, 100]), (.str [99, 111, 100, 101]), (.str [116, 111, 108, 100]), (.str [99, 111, 100, 101]), (.str [116, 111, 108, 100])]), some (.ref (os.length + 1)), none, none, none]) (os ++ pb P :: [.lst [.tup [.str rsd, (.str [99, 111, 100, 101])], (.str [116, 111, 108, 100]), .tup [.str rsd, (.str [99, 111, 100, 101])], (.str [116, 111, 108, 100]), .tup [.str rsd, (.str [99, 111, 100, 101])], (.str [116, 111, 108, 100])]]) : R Oc) := fun os ho => all1 (kTq9 a b c P x2 x3 x4 x5 x6) os ho
theorem kT9 (a b c P : T3) (x2 x3 x5 x6 : Vl) : ((SP a b c).map fun os => LT3.map fun x4 => evS G4 LOW (.set 8 (.bin .add (.str [110, 117, 109, 98, 101, 114, 32]) (.rpr (.var 4)))) [some (.ref os.length), some (.ins 0 [.tup [.int 25, .int 7], .int 5]), some (x2), some (x3), some (x4), some (x5), some (x6), some (.fn 39), none, some (.lst [(.str [99, 111, 100, 101]), (.str [116, 111, 108, 100]), (.str [99, 111, 100, 101]), (.str [116, 111, 108, 100]), (.str [99, 111, 100, 101]), (.str [116, 111, 108, 100])]), some (.ref (os.length + 1)), none, none, none] (os ++ pb P :: [.lst [.tup [.str rsd, (.str [99, 111, 100, 101])], (.str [116, 111, 108, 100]), .tup [.str rsd, (.str [99, 111, 100, 101])], (.str [116, 111, 108, 100]), .tup [.str rsd, (.str [99, 111, 100, 101])], (.str [116, 111, 108, 100])]])) = ((SP a b c).map fun os => LT3.map fun x4 => (.ok (.nx [some (.ref os.length), some (.ins 0 [.tup [.int 25, .int 7], .int 5]), some (x2), some (x3), some (x4), some (x5), some (x6), some (.fn 39), some ((.str (NR x4))), some (.lst [(.str [99, 111, 100, 101]), (.str [116, 111, 108, 100]), (.str [99, 111, 100, 101]), (.str [116, 111, 108, 100]), (.str [99, 111, 100, 101]), (.str [116, 111, 108, 100])]), some (.ref (os.length + 1)), none, none, none]) (os ++ pb P :: [.lst [.tup [.str rsd, (.str [99, 111, 100, 101])], (.str [116, 111, 108, 100]), .tup [.str rsd, (.str [99, 111, 100, 101])], (.str [116, 111, 108, 100]), .tup [.str rsd, (.str [99, 111, 100, 101])], (.str [116, 111, 108, 100])]]) : R Oc)) := by kernel_rfl
theorem tT9 (a b c P : T3) (x2 x3 x5 x6 : Vl) : ∀ os ∈ SP a b c, ∀ x4 ∈ LT3, evS G4 LOW (.set 8 (.bin .add (.str [110, 117, 109, 98, 101, 114, 32]) (.rpr (.var 4)))) [some (.ref os.length), some (.ins 0 [.tup [.int 25, .int 7], .int 5]), some (x2), some (x3), some (x4), some (x5), some (x6), some (.fn 39), none, some (.lst [(.str [99, 111, 100, 101]), (.str [116, 111, 108, 100]), (.str [99, 111, 100, 101]), (.str [116, 111, 108, 100]), (.str [99, 111, 100, 101]), (.str [116, 111, 108, 100])]), some (.ref (os.length + 1)), none, none, none] (os ++ pb P :: [.lst [.tup [.str rsd, (.str [99, 111, 100, 101])], (.str [116, 111, 108, 100]), .tup [.str rsd, (.str [99, 111, 100, 101])], (.str [116, 111, 108, 100]), .tup [.str rsd, (.str [99, 111, 100, 101])], (.str [116, 111, 108, 100])]]) = (.ok (.nx [some (.ref os.length), some (.ins 0 [.tup [.int 25, .int 7], .int 5]), some (x2), some (x3), some (x4), some (x5), some (x6), some (.fn 39), some ((.str (NR x4))), some (.lst [(.str [99, 111, 100, 101]), (.str [116, 111, 108, 100]), (.str [99, 111, 100, 101]), (.str [116, 111, 108, 100]), (.str [99, 111, 100, 101]), (.str [116, 111, 108, 100])]), some (.ref (os.length + 1)), none, none, none]) (os ++ pb P :: [.lst [.tup [.str rsd, (.str [99, 111, 100, 101])], (.str [116, 111, 108, 100]), .tup [.str rsd, (.str [99, 111, 100, 101])], (.str [116, 111, 108, 100]), .tup [.str rsd, (.str [99, 111, 100, 101])], (.str [116, 111, 108, 100])]]) : R Oc) := fun os ho x4 hx4 => all1 (all1 (kT9 a b c P x2 x3 x5 x6) os ho) x4 hx4
theorem kTw10 (a b c P : T3) (x2 x3 x4 x5 x6 : Vl) : ((SP a b c).map fun os => evW G4 LOW (.over (.tup (.acons (.tup (.acons (.gl 48) (.acons (.var 3) (.acons (.str [119, 111, 114, 100]) .anil)))) (.acons (.tup (.acons (.gl 51) (.acons (.var 4) (.acons (.var 8) .anil)))) .anil)))) [some (.ref os.length), some (.ins 0 [.tup [.int 25, .int 7], .int 5]), some (x2), some (x3), some (x4), some (x5), some (x6), some (.fn 39), some ((.str (NR x4))), some (.lst [(.str [99, 111, 100, 101]), (.str [116, 111, 108, 100]), (.str [99, 111, 100, 101]), (.str [116, 111, 108, 100]), (.str [99, 111, 100, 101]), (.str [116, 111, 108, 100])]), some (.ref (os.length + 1)), none, none, none] (os ++ pb P :: [.lst [.tup [.str rsd, (.str [99, 111, 100, 101])], (.str [116, 111, 108, 100]), .tup [.str rsd, (.str [99, 111, 100, 101])], (.str [116, 111, 108, 100]), .tup [.str rsd, (.str [99, 111, 100, 101])], (.str [116, 111, 108, 100])]])) = ((SP a b c).map fun os => (.ok (.its [.tup [.fn 37, x3, (.str [119, 111, 114, 100])], .tup [.fn 40, x4, (.str (NR x4))]]) (os ++ pb P :: [.lst [.tup [.str rsd, (.str [99, 111, 100, 101])], (.str [116, 111, 108, 100]), .tup [.str rsd, (.str [99, 111, 100, 101])], (.str [116, 111, 108, 100]), .tup [.str rsd, (.str [99, 111, 100, 101])], (.str [116, 111, 108, 100])]]) : R Wk)) := by kernel_rfl
theorem tTw10 (a b c P : T3) (x2 x3 x4 x5 x6 : Vl) : ∀ os ∈ SP a b c,  evW G4 LOW (.over (.tup (.acons (.tup (.acons (.gl 48) (.acons (.var 3) (.acons (.str [119, 111, 114, 100]) .anil)))) (.acons (.tup (.acons (.gl 51) (.acons (.var 4) (.acons (.var 8) .anil)))) .anil)))) [some (.ref os.length), some (.ins 0 [.tup [.int 25, .int 7], .int 5]), some (x2), some (x3), some (x4), some (x5), some (x6), some (.fn 39), some ((.str (NR x4))), some (.lst [(.str [99, 111, 100, 101]), (.str [116, 111, 108, 100]), (.str [99, 111, 100, 101]), (.str [116, 111, 108, 100]), (.str [99, 111, 100, 101]), (.str [116, 111, 108, 100])]), some (.ref (os.length + 1)), none, none, none] (os ++ pb P :: [.lst [.tup [.str rsd, (.str [99, 111, 100, 101])], (.str [116, 111, 108, 100]), .tup [.str rsd, (.str [99, 111, 100, 101])], (.str [116, 111, 108, 100]), .tup [.str rsd, (.str [99, 111, 100, 101])], (.str [116, 111, 108, 100])]]) = (.ok (.its [.tup [.fn 37, x3, (.str [119, 111, 114, 100])], .tup [.fn 40, x4, (.str (NR x4))]]) (os ++ pb P :: [.lst [.tup [.str rsd, (.str [99, 111, 100, 101])], (.str [116, 111, 108, 100]), .tup [.str rsd, (.str [99, 111, 100, 101])], (.str [116, 111, 108, 100]), .tup [.str rsd, (.str [99, 111, 100, 101])], (.str [116, 111, 108, 100])]]) : R Wk) := fun os ho => all1 (kTw10 a b c P x2 x3 x4 x5 x6) os ho
theorem kTq10 (a b c P : T3) (x3 x4 x5 x6 : Vl) : ((SP a b c).map fun os => LT1.map fun x2 => evS G4 LOW (.ex (.mth .append (.var 10) (.acons (.lamc 46 (.callv 7 (.acons (.var 2) (.acons (.var 11) .anil)))) .anil))) [some (.ref os.length), some (.ins 0 [.tup [.int 25, .int 7], .int 5]), some (x2), some (x3), some (x4), some (x5), some (x6), some (.fn 37), some ((.str (NR x4))), some (.lst [(.str [99, 111, 100, 101]), (.str [116, 111, 108, 100]), (.str [99, 111, 100, 101]), (.str [116, 111, 108, 100]), (.str [99, 111, 100, 101]), (.str [116, 111, 108, 100])]), some (.ref (os.length + 1)), some (x3), some ((.str [119, 111, 114, 100])), none] (os ++ pb P :: [.lst [.tup [.str rsd, (.str [99, 111, 100, 101])], (.str [116, 111, 108, 100]), .tup [.str rsd, (.str [99, 111, 100, 101])], (.str [116, 111, 108, 100]), .tup [.str rsd, (.str [99, 111, 100, 101])], (.str [116, 111, 108, 100])]])) = ((SP a b c).map fun os => LT1.map fun x2 => (.ok (.nx [some (.ref os.length), some (.ins 0 [.tup [.int 25, .int 7], .int 5]), some (x2), some (x3), some (x4), some (x5), some (x6), some (.fn 37), some ((.str (NR x4))), some (.lst [(.str [99, 111, 100, 101]), (.str [116, 111, 108, 100]), (.str [99, 111, 100, 101]), (.str [116, 111, 108, 100]), (.str [99, 111, 100, 101]), (.str [116, 111, 108, 100])]), some (.ref (os.length + 1)), some (x3), some ((.str [119, 111, 114, 100])), none]) (os ++ pb P :: [.lst [.tup [.str rsd, (.str [99, 111, 100, 101])], (.str [116, 111, 108, 100]), .tup [.str rsd, (.str [99, 111, 100, 101])], (.str [116, 111, 108, 100]), .tup [.str rsd, (.str [99, 111, 100, 101])], (.str [116, 111, 108, 100]), .tup [.str rsd, (.str [99, 111, 100, 101])]]]) : R Oc)) := by kernel_rfl
theorem tTq10 (a b c P : T3) (x3 x4 x5 x6 : Vl) : ∀ os ∈ SP a b c, ∀ x2 ∈ LT1, evS G4 LOW (.ex (.mth .append (.var 10) (.acons (.lamc 46 (.callv 7 (.acons (.var 2) (.acons (.var 11) .anil)))) .anil))) [some (.ref os.length), some (.ins 0 [.tup [.int 25, .int 7], .int 5]), some (x2), some (x3), some (x4), some (x5), some (x6), some (.fn 37), some ((.str (NR x4))), some (.lst [(.str [99, 111, 100, 101]), (.str [116, 111, 108, 100]), (.str [99, 111, 100, 101]), (.str [116, 111, 108, 100]), (.str [99, 111, 100, 101]), (.str [116, 111, 108, 100])]), some (.ref (os.length + 1)), some (x3), some ((.str [119, 111, 114, 100])), none] (os ++ pb P :: [.lst [.tup [.str rsd, (.str [99, 111, 100, 101])], (.str [116, 111, 108, 100]), .tup [.str rsd, (.str [99, 111, 100, 101])], (.str [116, 111, 108, 100]), .tup [.str rsd, (.str [99, 111, 100, 101])], (.str [116, 111, 108, 100])]]) = (.ok (.nx [some (.ref os.length), some (.ins 0 [.tup [.int 25, .int 7], .int 5]), some (x2), some (x3), some (x4), some (x5), some (x6), some (.fn 37), some ((.str (NR x4))), some (.lst [(.str [99, 111, 100, 101]), (.str [116, 111, 108, 100]), (.str [99, 111, 100, 101]), (.str [116, 111, 108, 100]), (.str [99, 111, 100, 101]), (.str [116, 111, 108, 100])]), some (.ref (os.length + 1)), some (x3), some ((.str [119, 111, 114, 100])), none]) (os ++ pb P :: [.lst [.tup [.str rsd, (.str [99, 111, 100, 101])], (.str [116, 111, 108, 100]), .tup [.str rsd, (.str [99, 111, 100, 101])], (.str [116, 111, 108, 100]), .tup [.str rsd, (.str [99, 111, 100, 101])], (.str [116, 111, 108, 100]), .tup [.str rsd, (.str [99, 111, 100, 101])]]]) : R Oc) := fun os ho x2 hx2 => all1 (all1 (kTq10 a b c P x3 x4 x5 x6) os ho) x2 hx2
theorem kTq11 (a b c P : T3) (x2 x4 x5 x6 : Vl) : ((SP a b c).map fun os => LT2.map fun x3 => evS G4 LOW (.ex (.mth .append (.var 10) (.acons (.lamc 46 (.callv 7 (.acons (.var 1) (.acons (.var 11) .anil)))) .anil))) [some (.ref os.length), some (.ins 0 [.tup [.int 25, .int 7], .int 5]), some (x2), some (x3), some (x4), some (x5), some (x6), some (.fn 37), some ((.str (NR x4))), some (.lst [(.str [99, 111, 100, 101]), (.str [116, 111, 108, 100]), (.str [99, 111, 100, 101]), (.str [116, 111, 108, 100]), (.str [99, 111, 100, 101]), (.str [116, 111, 108, 100])]), some (.ref (os.length + 1)), some (x3), some ((.str [119, 111, 114, 100])), none] (os ++ pb P :: [.lst [.tup [.str rsd, (.str [99, 111, 100, 101])], (.str [116, 111, 108, 100]), .tup [.str rsd, (.str [99, 111, 100, 101])], (.str [116, 111, 108, 100]), .tup [.str rsd, (.str [99, 111, 100, 101])], (.str [116, 111, 108, 100]), .tup [.str rsd, (.str [99, 111, 100, 101])]]])) = ((SP a b c).map fun os => LT2.map fun x3 => (.ok (.nx [some (.ref os.length), some (.ins 0 [.tup [.int 25, .int 7], .int 5]), some (x2), some (x3), some (x4), some (x5), some (x6), some (.fn 37), some ((.str (NR x4))), some (.lst [(.str [99, 111, 100, 101]), (.str [116, 111, 108, 100]), (.str [99, 111, 100, 101]), (.str [116, 111, 108, 100]), (.str [99, 111, 100, 101]), (.str [116, 111, 108, 100])]), some (.ref (os.length + 1)), some (x3), some ((.str [119, 111, 114, 100])), none]) (os ++ pb P :: [.lst [.tup [.str rsd, (.str [99, 111, 100, 101])], (.str [116, 111, 108, 100]), .tup [.str rsd, (.str [99, 111, 100, 101])], (.str [116, 111, 108, 100]), .tup [.str rsd, (.str [99, 111, 100, 101])], (.str [116, 111, 108, 100]), .tup [.str rsd, (.str [99, 111, 100, 101])], .tup [.str rsd, (.str [119, 111, 114, 100])]]]) : R Oc)) := by kernel_rfl
theorem tTq11 (a b c P : T3) (x2 x4 x5 x6 : Vl) : ∀ os ∈ SP a b c, ∀ x3 ∈ LT2, evS G4 LOW (.ex (.mth .append (.var 10) (.acons (.lamc 46 (.callv 7 (.acons (.var 1) (.acons (.var 11) .anil)))) .anil))) [some (.ref os.length), some (.ins 0 [.tup [.int 25, .int 7], .int 5]), some (x2), some (x3), some (x4), some (x5), some (x6), some (.fn 37), some ((.str (NR x4))), some (.lst [(.str [99, 111, 100, 101]), (.str [116, 111, 108, 100]), (.str [99, 111, 100, 101]), (.str [116, 111, 108, 100]), (.str [99, 111, 100, 101]), (.str [116, 111, 108, 100])]), some (.ref (os.length + 1)), some (x3), some ((.str [119, 111, 114, 100])), none] (os ++ pb P :: [.lst [.tup [.str rsd, (.str [99, 111, 100, 101])], (.str [116, 111, 108, 100]), .tup [.str rsd, (.str [99, 111, 100, 101])], (.str [116, 111, 108, 100]), .tup [.str rsd, (.str [99, 111, 100, 101])], (.str [116, 111, 108, 100]), .tup [.str rsd, (.str [99, 111, 100, 101])]]]) = (.ok (.nx [some (.ref os.length), some (.ins 0 [.tup [.int 25, .int 7], .int 5]), some (x2), some (x3), some (x4), some (x5), some (x6), some (.fn 37), some ((.str (NR x4))), some (.lst [(.str [99, 111, 100, 101]), (.str [116, 111, 108, 100]), (.str [99, 111, 100, 101]), (.str [116, 111, 108, 100]), (.str [99, 111, 100, 101]), (.str [116, 111, 108, 100])]), some (.ref (os.length + 1)), some (x3), some ((.str [119, 111, 114, 100])), none]) (os ++ pb P :: [.lst [.tup [.str rsd, (.str [99, 111, 100, 101])], (.str [116, 111, 108, 100]), .tup [.str rsd, (.str [99, 111, 100, 101])], (.str [116, 111, 108, 100]), .tup [.str rsd, (.str [99, 111, 100, 101])], (.str [116, 111, 108, 100]), .tup [.str rsd, (.str [99, 111, 100, 101])], .tup [.str rsd, (.str [119, 111, 114, 100])]]]) : R Oc) := fun os ho x3 hx3 => all1 (all1 (kTq11 a b c P x2 x4 x5 x6) os ho) x3 hx3
theorem kTq12 (a b c P : T3) (x2 x3 x4 x5 x6 : Vl) : ((SP a b c).map fun os => evS G4 LOW (.ex (.mth .append (.var 10) (.acons (.lamc 46 (.callv 7 (.acons (.var 1) (.acons (.int 5) .anil)))) .anil))) [some (.ref os.length), some (.ins 0 [.tup [.int 25, .int 7], .int 5]), some (x2), some (x3), some (x4), some (x5), some (x6), some (.fn 37), some ((.str (NR x4))), some (.lst [(.str [99, 111, 100, 101]), (.str [116, 111, 108, 100]), (.str [99, 111, 100, 101]), (.str [116, 111, 108, 100]), (.str [99, 111, 100, 101]), (.str [116, 111, 108, 100])]), some (.ref (os.length + 1)), some (x3), some ((.str [119, 111, 114, 100])), none] (os ++ pb P :: [.lst [.tup [.str rsd, (.str [99, 111, 100, 101])], (.str [116, 111, 108, 100]), .tup [.str rsd, (.str [99, 111, 100, 101])], (.str [116, 111, 108, 100]), .tup [.str rsd, (.str [99, 111, 100, 101])], (.str [116, 111, 108, 100]), .tup [.str rsd, (.str [99, 111, 100, 101])], .tup [.str rsd, (.str [119, 111, 114, 100])]]])) = ((SP a b c).map fun os => (.ok (.nx [some (.ref os.length), some (.ins 0 [.tup [.int 25, .int 7], .int 5]), some (x2), some (x3), some (x4), some (x5), some (x6), some (.fn 37), some ((.str (NR x4))), some (.lst [(.str [99, 111, 100, 101]), (.str [116, 111, 108, 100]), (.str [99, 111, 100, 101]), (.str [116, 111, 108, 100]), (.str [99, 111, 100, 101]), (.str [116, 111, 108, 100])]), some (.ref (os.length + 1)), some (x3), some ((.str [119, 111, 114, 100])), none]) (os ++ pb P :: [.lst [.tup [.str rsd, (.str [99, 111, 100, 101])], (.str [116, 111, 108, 100]), .tup [.str rsd, (.str [99, 111, 100, 101])], (.str [116, 111, 108, 100]), .tup [.str rsd, (.str [99, 111, 100, 101])], (.str [116, 111, 108, 100]), .tup [.str rsd, (.str [99, 111, 100, 101])], .tup [.str rsd, (.str [119, 111, 114, 100])], (.str [116, 111, 108, 100])]]) : R Oc)) := by kernel_rfl
theorem tTq12 (a b c P : T3) (x2 x3 x4 x5 x6 : Vl) : ∀ os ∈ SP a b c,  evS G4 LOW (.ex (.mth .append (.var 10) (.acons (.lamc 46 (.callv 7 (.acons (.var 1) (.acons (.int 5) .anil)))) .anil))) [some (.ref os.length), some (.ins 0 [.tup [.int 25, .int 7], .int 5]), some (x2), some (x3), some (x4), some (x5), some (x6), some (.fn 37), some ((.str (NR x4))), some (.lst [(.str [99, 111, 100, 101]), (.str [116, 111, 108, 100]), (.str [99, 111, 100, 101]), (.str [116, 111, 108, 100]), (.str [99, 111, 100, 101]), (.str [116, 111, 108, 100])]), some (.ref (os.length + 1)), some (x3), some ((.str [119, 111, 114, 100])), none] (os ++ pb P :: [.lst [.tup [.str rsd, (.str [99, 111, 100, 101])], (.str [116, 111, 108, 100]), .tup [.str rsd, (.str [99, 111, 100, 101])], (.str [116, 111, 108, 100]), .tup [.str rsd, (.str [99, 111, 100, 101])], (.str [116, 111, 108, 100]), .tup [.str rsd, (.str [99, 111, 100, 101])], .tup [.str rsd, (.str [119, 111, 114, 100])]]]) = (.ok (.nx [some (.ref os.length), some (.ins 0 [.tup [.int 25, .int 7], .int 5]), some (x2), some (x3), some (x4), some (x5), some (x6), some (.fn 37), some ((.str (NR x4))), some (.lst [(.str [99, 111, 100, 101]), (.str [116, 111, 108, 100]), (.str [99, 111, 100, 101]), (.str [116, 111, 108, 100]), (.str [99, 111, 100, 101]), (.str [116, 111, 108, 100])]), some (.ref (os.length + 1)), some (x3), some ((.str [119, 111, 114, 100])), none]) (os ++ pb P :: [.lst [.tup [.str rsd, (.str [99, 111, 100, 101])], (.str [116, 111, 108, 100]), .tup [.str rsd, (.str [99, 111, 100, 101])], (.str [116, 111, 108, 100]), .tup [.str rsd, (.str [99, 111, 100, 101])], (.str [116, 111, 108, 100]), .tup [.str rsd, (.str [99, 111, 100, 101])], .tup [.str rsd, (.str [119, 111, 114, 100])], (.str [116, 111, 108, 100])]]) : R Oc) := fun os ho => all1 (kTq12 a b c P x2 x3 x4 x5 x6) os ho
theorem kTq13 (a b c P : T3) (x2 x3 x4 x5 x6 : Vl) : ((SP a b c).map fun os => evS G4 LOW (.set 9 (.fz (.cat (.var 9) (.fz (.disp (.acons (.str [99, 111, 100, 101]) (.acons (.var 12) (.acons (.str [116, 111, 108, 100]) .anil)))))))) [some (.ref os.length), some (.ins 0 [.tup [.int 25, .int 7], .int 5]), some (x2), some (x3), some (x4), some (x5), some (x6), some (.fn 37), some ((.str (NR x4))), some (.lst [(.str [99, 111, 100, 101]), (.str [116, 111, 108, 100]), (.str [99, 111, 100, 101]), (.str [116, 111, 108, 100]), (.str [99, 111, 100, 101]), (.str [116, 111, 108, 100])]), some (.ref (os.length + 1)), some (x3), some ((.str [119, 111, 114, 100])), none] (os ++ pb P :: [.lst [.tup [.str rsd, (.str [99, 111, 100, 101])], (.str [116, 111, 108, 100]), .tup [.str rsd, (.str [99, 111, 100, 101])], (.str [116, 111, 108, 100]), .tup [.str rsd, (.str [99, 111, 100, 101])], (.str [116, 111, 108, 100]), .tup [.str rsd, (.str [99, 111, 100, 101])], .tup [.str rsd, (.str [119, 111, 114, 100])], (.str [116, 111, 108, 100])]])) = ((SP a b c).map fun os => (.ok (.nx [some (.ref os.length), some (.ins 0 [.tup [.int 25, .int 7], .int 5]), some (x2), some (x3), some (x4), some (x5), some (x6), some (.fn 37), some ((.str (NR x4))), some (.lst [(.str [99, 111, 100, 101]), (.str [116, 111, 108, 100]), (.str [99, 111, 100, 101]), (.str [116, 111, 108, 100]), (.str [99, 111, 100, 101]), (.str [116, 111, 108, 100]), (.str [99, 111, 100, 101]), (.str [119, 111, 114, 100]), (.str [116, 111, 108, 100])]), some (.ref (os.length + 1)), some (x3), some ((.str [119, 111, 114, 100])), none]) (os ++ pb P :: [.lst [.tup [.str rsd, (.str [99, 111, 100, 101])], (.str [116, 111, 108, 100]), .tup [.str rsd, (.str [99, 111, 100, 101])], (.str [116, 111, 108, 100]), .tup [.str rsd, (.str [99, 111, 100, 101])], (.str [116, 111, 108, 100]), .tup [.str rsd, (.str [99, 111, 100, 101])], .tup [.str rsd, (.str [119, 111, 114, 100])], (.str [116, 111, 108, 100])]]) : R Oc)) := by kernel_rfl
theorem tTq13 (a b c P : T3) (x2 x3 x4 x5 x6 : Vl) : ∀ os ∈ SP a b c,  evS G4 LOW (.set 9 (.fz (.cat (.var 9) (.fz (.disp (.acons (.str [99, 111, 100, 101]) (.acons (.var 12) (.acons (.str [116, 111, 108, 100]) .anil)))))))) [some (.ref os.length), some (.ins 0 [.tup [.int 25, .int 7], .int 5]), some (x2), some (x3), some (x4), some (x5), some (x6), some (.fn 37), some ((.str (NR x4))), some (.lst [(.str [99, 111, 100, 101]), (.str [116, 111, 108, 100]), (.str [99, 111, 100, 101]), (.str [116, 111, 108, 100]), (.str [99, 111, 100, 101]), (.str [116, 111, 108, 100])]), some (.ref (os.length + 1)), some (x3), some ((.str [119, 111, 114, 100])), none] (os ++ pb P :: [.lst [.tup [.str rsd, (.str [99, 111, 100, 101])], (.str [116, 111, 108, 100]), .tup [.str rsd, (.str [99, 111, 100, 101])], (.str [116, 111, 108, 100]), .tup [.str rsd, (.str [99, 111, 100, 101])], (.str [116, 111, 108, 100]), .tup [.str rsd, (.str [99, 111, 100, 101])], .tup [.str rsd, (.str [119, 111, 114, 100])], (.str [116, 111, 108, 100])]]) = (.ok (.nx [some (.ref os.length), some (.ins 0 [.tup [.int 25, .int 7], .int 5]), some (x2), some (x3), some (x4), some (x5), some (x6), some (.fn 37), some ((.str (NR x4))), some (.lst [(.str [99, 111, 100, 101]), (.str [116, 111, 108, 100]), (.str [99, 111, 100, 101]), (.str [116, 111, 108, 100]), (.str [99, 111, 100, 101]), (.str [116, 111, 108, 100]), (.str [99, 111, 100, 101]), (.str [119, 111, 114, 100]), (.str [116, 111, 108, 100])]), some (.ref (os.length + 1)), some (x3), some ((.str [119, 111, 114, 100])), none]) (os ++ pb P :: [.lst [.tup [.str rsd, (.str [99, 111, 100, 101])], (.str [116, 111, 108, 100]), .tup [.str rsd, (.str [99, 111, 100, 101])], (.str [116, 111, 108, 100]), .tup [.str rsd, (.str [99, 111, 100, 101])], (.str [116, 111, 108, 100]), .tup [.str rsd, (.str [99, 111, 100, 101])], .tup [.str rsd, (.str [119, 111, 114, 100])], (.str [116, 111, 108, 100])]]) : R Oc) := fun os ho => all1 (kTq13 a b c P x2 x3 x4 x5 x6) os ho
theorem kTq14 (a b c P : T3) (x3 x4 x5 x6 : Vl) : ((SP a b c).map fun os => LT1.map fun x2 => evS G4 LOW (.ex (.mth .append (.var 10) (.acons (.lamc 46 (.callv 7 (.acons (.var 2) (.acons (.var 11) .anil)))) .anil))) [some (.ref os.length), some (.ins 0 [.tup [.int 25, .int 7], .int 5]), some (x2), some (x3), some (x4), some (x5), some (x6), some (.fn 40), some ((.str (NR x4))), some (.lst [(.str [99, 111, 100, 101]), (.str [116, 111, 108, 100]), (.str [99, 111, 100, 101]), (.str [116, 111, 108, 100]), (.str [99, 111, 100, 101]), (.str [116, 111, 108, 100]), (.str [99, 111, 100, 101]), (.str [119, 111, 114, 100]), (.str [116, 111, 108, 100])]), some (.ref (os.length + 1)), some (x4), some ((.str (NR x4))), none] (os ++ pb P :: [.lst [.tup [.str rsd, (.str [99, 111, 100, 101])], (.str [116, 111, 108, 100]), .tup [.str rsd, (.str [99, 111, 100, 101])], (.str [116, 111, 108, 100]), .tup [.str rsd, (.str [99, 111, 100, 101])], (.str [116, 111, 108, 100]), .tup [.str rsd, (.str [99, 111, 100, 101])], .tup [.str rsd, (.str [119, 111, 114, 100])], (.str [116, 111, 108, 100])]])) = ((SP a b c).map fun os => LT1.map fun x2 => (.ok (.nx [some (.ref os.length), some (.ins 0 [.tup [.int 25, .int 7], .int 5]), some (x2), some (x3), some (x4), some (x5), some (x6), some (.fn 40), some ((.str (NR x4))), some (.lst [(.str [99, 111, 100, 101]), (.str [116, 111, 108, 100]), (.str [99, 111, 100, 101]), (.str [116, 111, 108, 100]), (.str [99, 111, 100, 101]), (.str [116, 111, 108, 100]), (.str [99, 111, 100, 101]), (.str [119, 111, 114, 100]), (.str [116, 111, 108, 100])]), some (.ref (os.length + 1)), some (x4), some ((.str (NR x4))), none]) (os ++ pb P :: [.lst [.tup [.str rsd, (.str [99, 111, 100, 101])], (.str [116, 111, 108, 100]), .tup [.str rsd, (.str [99, 111, 100, 101])], (.str [116, 111, 108, 100]), .tup [.str rsd, (.str [99, 111, 100, 101])], (.str [116, 111, 108, 100]), .tup [.str rsd, (.str [99, 111, 100, 101])], .tup [.str rsd, (.str [119, 111, 114, 100])], (.str [116, 111, 108, 100]), .tup [.str rsd, (.str [99, 111, 100, 101])]]]) : R Oc)) := by kernel_rfl
theorem tTq14 (a b c P : T3) (x3 x4 x5 x6 : Vl) : ∀ os ∈ SP a b c, ∀ x2 ∈ LT1, evS G4 LOW (.ex (.mth .append (.var 10) (.acons (.lamc 46 (.callv 7 (.acons (.var 2) (.acons (.var 11) .anil)))) .anil))) [some (.ref os.length), some (.ins 0 [.tup [.int 25, .int 7], .int 5]), some (x2), some (x3), some (x4), some (x5), some (x6), some (.fn 40), some ((.str (NR x4))), some (.lst [(.str [99, 111, 100, 101]), (.str [116, 111, 108, 100]), (.str [99, 111, 100, 101]), (.str [116, 111, 108, 100]), (.str [99, 111, 100, 101]), (.str [116, 111, 108, 100]), (.str [99, 111, 100, 101]), (.str [119, 111, 114, 100]), (.str [116, 111, 108, 100])]), some (.ref (os.length + 1)), some (x4), some ((.str (NR x4))), none] (os ++ pb P :: [.lst [.tup [.str rsd, (.str [99, 111, 100, 101])], (.str [116, 111, 108, 100]), .tup [.str rsd, (.str [99, 111, 100, 101])], (.str [116, 111, 108, 100]), .tup [.str rsd, (.str [99, 111, 100, 101])], (.str [116, 111, 108, 100]), .tup [.str rsd, (.str [99, 111, 100, 101])], .tup [.str rsd, (.str [119, 111, 114, 100])], (.str [116, 111, 108, 100])]]) = (.ok (.nx [some (.ref os.length), some (.ins 0 [.tup [.int 25, .int 7], .int 5]), some (x2), some (x3), some (x4), some (x5), some (x6), some (.fn 40), some ((.str (NR x4))), some (.lst [(.str [99, 111, 100, 101]), (.str [116, 111, 108, 100]), (.str [99, 111, 100, 101]), (.str [116, 111, 108, 100]), (.str [99, 111, 100, 101]), (.str [116, 111, 108, 100]), (.str [99, 111, 100, 101]), (.str [119, 111, 114, 100]), (.str [116, 111, 108, 100])]), some (.ref (os.length + 1)), some (x4), some ((.str (NR x4))), none]) (os ++ pb P :: [.lst [.tup [.str rsd, (.str [99, 111, 100, 101])], (.str [116, 111, 108, 100]), .tup [.str rsd, (.str [99, 111, 100, 101])], (.str [116, 111, 108, 100]), .tup [.str rsd, (.str [99, 111, 100, 101])], (.str [116, 111, 108, 100]), .tup [.str rsd, (.str [99, 111, 100, 101])], .tup [.str rsd, (.str [119, 111, 114, 100])], (.str [116, 111, 108, 100]), .tup [.str rsd, (.str [99, 111, 100, 101])]]]) : R Oc) := fun os ho x2 hx2 => all1 (all1 (kTq14 a b c P x3 x4 x5 x6) os ho) x2 hx2
theorem kTq15 (a b c P : T3) (x2 x3 x5 x6 : Vl) : ((SP a b c).map fun os => LT3.map fun x4 => evS G4 LOW (.ex (.mth .append (.var 10) (.acons (.lamc 46 (.callv 7 (.acons (.var 1) (.acons (.var 11) .anil)))) .anil))) [some (.ref os.length), some (.ins 0 [.tup [.int 25, .int 7], .int 5]), some (x2), some (x3), some (x4), some (x5), some (x6), some (.fn 40), some ((.str (NR x4))), some (.lst [(.str [99, 111, 100, 101]), (.str [116, 111, 108, 100]), (.str [99, 111, 100, 101]), (.str [116, 111, 108, 100]), (.str [99, 111, 100, 101]), (.str [116, 111, 108, 100]), (.str [99, 111, 100, 101]), (.str [119, 111, 114, 100]), (.str [116, 111, 108, 100])]), some (.ref (os.length + 1)), some (x4), some ((.str (NR x4))), none] (os ++ pb P :: [.lst [.tup [.str rsd, (.str [99, 111, 100, 101])], (.str [116, 111, 108, 100]), .tup [.str rsd, (.str [99, 111, 100, 101])], (.str [116, 111, 108, 100]), .tup [.str rsd, (.str [99, 111, 100, 101])], (.str [116, 111, 108, 100]), .tup [.str rsd, (.str [99, 111, 100, 101])], .tup [.str rsd, (.str [119, 111, 114, 100])], (.str [116, 111, 108, 100]), .tup [.str rsd, (.str [99, 111, 100, 101])]]])) = ((SP a b c).map fun os => LT3.map fun x4 => (.ok (.nx [some (.ref os.length), some (.ins 0 [.tup [.int 25, .int 7], .int 5]), some (x2), some (x3), some (x4), some (x5), some (x6), some (.fn 40), some ((.str (NR x4))), some (.lst [(.str [99, 111, 100, 101]), (.str [116, 111, 108, 100]), (.str [99, 111, 100, 101]), (.str [116, 111, 108, 100]), (.str [99, 111, 100, 101]), (.str [116, 111, 108, 100]), (.str [99, 111, 100, 101]), (.str [119, 111, 114, 100]), (.str [116, 111, 108, 100])]), some (.ref (os.length + 1)), some (x4), some ((.str (NR x4))), none]) (os ++ pb P :: [.lst [.tup [.str rsd, (.str [99, 111, 100, 101])], (.str [116, 111, 108, 100]), .tup [.str rsd, (.str [99, 111, 100, 101])], (.str [116, 111, 108, 100]), .tup [.str rsd, (.str [99, 111, 100, 101])], (.str [116, 111, 108, 100]), .tup [.str rsd, (.str [99, 111, 100, 101])], .tup [.str rsd, (.str [119, 111, 114, 100])], (.str [116, 111, 108, 100]), .tup [.str rsd, (.str [99, 111, 100, 101])], .tup [.str rsd, (.str (NR x4))]]]) : R Oc)) := by kernel_rfl
theorem tTq15 (a b c P : T3) (x2 x3 x5 x6 : Vl) : ∀ os ∈ SP a b c, ∀ x4 ∈ LT3, evS G4 LOW (.ex (.mth .append (.var 10) (.acons (.lamc 46 (.callv 7 (.acons (.var 1) (.acons (.var 11) .anil)))) .anil))) [some (.ref os.length), some (.ins 0 [.tup [.int 25, .int 7], .int 5]), some (x2), some (x3), some (x4), some (x5), some (x6), some (.fn 40), some ((.str (NR x4))), some (.lst [(.str [99, 111, 100, 101]), (.str [116, 111, 108, 100]), (.str [99, 111, 100, 101]), (.str [116, 111, 108, 100]), (.str [99, 111, 100, 101]), (.str [116, 111, 108, 100]), (.str [99, 111, 100, 101]), (.str [119, 111, 114, 100]), (.str [116, 111, 108, 100])]), some (.ref (os.length + 1)), some (x4), some ((.str (NR x4))), none] (os ++ pb P :: [.lst [.tup [.str rsd, (.str [99, 111, 100, 101])], (.str [116, 111, 108, 100]), .tup [.str rsd, (.str [99, 111, 100, 101])], (.str [116, 111, 108, 100]), .tup [.str rsd, (.str [99, 111, 100, 101])], (.str [116, 111, 108, 100]), .tup [.str rsd, (.str [99, 111, 100, 101])], .tup [.str rsd, (.str [119, 111, 114, 100])], (.str [116, 111, 108, 100]), .tup [.str rsd, (.str [99, 111, 100, 101])]]]) = (.ok (.nx [some (.ref os.length), some (.ins 0 [.tup [.int 25, .int 7], .int 5]), some (x2), some (x3), some (x4), some (x5), some (x6), some (.fn 40), some ((.str (NR x4))), some (.lst [(.str [99, 111, 100, 101]), (.str [116, 111, 108, 100]), (.str [99, 111, 100, 101]), (.str [116, 111, 108, 100]), (.str [99, 111, 100, 101]), (.str [116, 111, 108, 100]), (.str [99, 111, 100, 101]), (.str [119, 111, 114, 100]), (.str [116, 111, 108, 100])]), some (.ref (os.length + 1)), some (x4), some ((.str (NR x4))), none]) (os ++ pb P :: [.lst [.tup [.str rsd, (.str [99, 111, 100, 101])], (.str [116, 111, 108, 100]), .tup [.str rsd, (.str [99, 111, 100, 101])], (.str [116, 111, 108, 100]), .tup [.str rsd, (.str [99, 111, 100, 101])], (.str [116, 111, 108, 100]), .tup [.str rsd, (.str [99, 111, 100, 101])], .tup [.str rsd, (.str [119, 111, 114, 100])], (.str [116, 111, 108, 100]), .tup [.str rsd, (.str [99, 111, 100, 101])], .tup [.str rsd, (.str (NR x4))]]]) : R Oc) := fun os ho x4 hx4 => all1 (all1 (kTq15 a b c P x2 x3 x5 x6) os ho) x4 hx4
theorem kTq16 (a b c P : T3) (x2 x3 x4 x5 x6 : Vl) : ((SP a b c).map fun os => evS G4 LOW (.ex (.mth .append (.var 10) (.acons (.lamc 46 (.callv 7 (.acons (.var 1) (.acons (.int 5) .anil)))) .anil))) [some (.ref os.length), some (.ins 0 [.tup [.int 25, .int 7], .int 5]), some (x2), some (x3), some (x4), some (x5), some (x6), some (.fn 40), some ((.str (NR x4))), some (.lst [(.str [99, 111, 100, 101]), (.str [116, 111, 108, 100]), (.str [99, 111, 100, 101]), (.str [116, 111, 108, 100]), (.str [99, 111, 100, 101]), (.str [116, 111, 108, 100]), (.str [99, 111, 100, 101]), (.str [119, 111, 114, 100]), (.str [116, 111, 108, 100])]), some (.ref (os.length + 1)), some (x4), some ((.str (NR x4))), none] (os ++ pb P :: [.lst [.tup [.str rsd, (.str [99, 111, 100, 101])], (.str [116, 111, 108, 100]), .tup [.str rsd, (.str [99, 111, 100, 101])], (.str [116, 111, 108, 100]), .tup [.str rsd, (.str [99, 111, 100, 101])], (.str [116, 111, 108, 100]), .tup [.str rsd, (.str [99, 111, 100, 101])], .tup [.str rsd, (.str [119, 111, 114, 100])], (.str [116, 111, 108, 100]), .tup [.str rsd, (.str [99, 111, 100, 101])], .tup [.str rsd, (.str (NR x4))]]])) = ((SP a b c).map fun os => (.ok (.nx [some (.ref os.length), some (.ins 0 [.tup [.int 25, .int 7], .int 5]), some (x2), some (x3), some (x4), some (x5), some (x6), some (.fn 40), some ((.str (NR x4))), some (.lst [(.str [99, 111, 100, 101]), (.str [116, 111, 108, 100]), (.str [99, 111, 100, 101]), (.str [116, 111, 108, 100]), (.str [99, 111, 100, 101]), (.str [116, 111, 108, 100]), (.str [99, 111, 100, 101]), (.str [119, 111, 114, 100]), (.str [116, 111, 108, 100])]), some (.ref (os.length + 1)), some (x4), some ((.str (NR x4))), none]) (os ++ pb P :: [.lst [.tup [.str rsd, (.str [99, 111, 100, 101])], (.str [116, 111, 108, 100]), .tup [.str rsd, (.str [99, 111, 100, 101])], (.str [116, 111, 108, 100]), .tup [.str rsd, (.str [99, 111, 100, 101])], (.str [116, 111, 108, 100]), .tup [.str rsd, (.str [99, 111, 100, 101])], .tup [.str rsd, (.str [119, 111, 114, 100])], (.str [116, 111, 108, 100]), .tup [.str rsd, (.str [99, 111, 100, 101])], .tup [.str rsd, (.str (NR x4))], (.str [116, 111, 108, 100])]]) : R Oc)) := by kernel_rfl
theorem tTq16 (a b c P : T3) (x2 x3 x4 x5 x6 : Vl) : ∀ os ∈ SP a b c,  evS G4 LOW (.ex (.mth .append (.var 10) (.acons (.lamc 46 (.callv 7 (.acons (.var 1) (.acons (.int 5) .anil)))) .anil))) [some (.ref os.length), some (.ins 0 [.tup [.int 25, .int 7], .int 5]), some (x2), some (x3), some (x4), some (x5), some (x6), some (.fn 40), some ((.str (NR x4))), some (.lst [(.str [99, 111, 100, 101]), (.str [116, 111, 108, 100]), (.str [99, 111, 100, 101]), (.str [116, 111, 108, 100]), (.str [99, 111, 100, 101]), (.str [116, 111, 108, 100]), (.str [99, 111, 100, 101]), (.str [119, 111, 114, 100]), (.str [116, 111, 108, 100])]), some (.ref (os.length + 1)), some (x4), some ((.str (NR x4))), none] (os ++ pb P :: [.lst [.tup [.str rsd, (.str [99, 111, 100, 101])], (.str [116, 111, 108, 100]), .tup [.str rsd, (.str [99, 111, 100, 101])], (.str [116, 111, 108, 100]), .tup [.str rsd, (.str [99, 111, 100, 101])], (.str [116, 111, 108, 100]), .tup [.str rsd, (.str [99, 111, 100, 101])], .tup [.str rsd, (.str [119, 111, 114, 100])], (.str [116, 111, 108, 100]), .tup [.str rsd, (.str [99, 111, 100, 101])], .tup [.str rsd, (.str (NR x4))]]]) = (.ok (.nx [some (.ref os.length), some (.ins 0 [.tup [.int 25, .int 7], .int 5]), some (x2), some (x3), some (x4), some (x5), some (x6), some (.fn 40), some ((.str (NR x4))), some (.lst [(.str [99, 111, 100, 101]), (.str [116, 111, 108, 100]), (.str [99, 111, 100, 101]), (.str [116, 111, 108, 100]), (.str [99, 111, 100, 101]), (.str [116, 111, 108, 100]), (.str [99, 111, 100, 101]), (.str [119, 111, 114, 100]), (.str [116, 111, 108, 100])]), some (.ref (os.length + 1)), some (x4), some ((.str (NR x4))), none]) (os ++ pb P :: [.lst [.tup [.str rsd, (.str [99, 111, 100, 101])], (.str [116, 111, 108, 100]), .tup [.str rsd, (.str [99, 111, 100, 101])], (.str [116, 111, 108, 100]), .tup [.str rsd, (.str [99, 111, 100, 101])], (.str [116, 111, 108, 100]), .tup [.str rsd, (.str [99, 111, 100, 101])], .tup [.str rsd, (.str [119, 111, 114, 100])], (.str [116, 111, 108, 100]), .tup [.str rsd, (.str [99, 111, 100, 101])], .tup [.str rsd, (.str (NR x4))], (.str [116, 111, 108, 100])]]) : R Oc) := fun os ho => all1 (kTq16 a b c P x2 x3 x4 x5 x6) os ho
theorem kTq17 (a b c P : T3) (x2 x3 x4 x5 x6 : Vl) : ((SP a b c).map fun os => evS G4 LOW (.set 9 (.fz (.cat (.var 9) (.fz (.disp (.acons (.str [99, 111, 100, 101]) (.acons (.var 12) (.acons (.str [116, 111, 108, 100]) .anil)))))))) [some (.ref os.length), some (.ins 0 [.tup [.int 25, .int 7], .int 5]), some (x2), some (x3), some (x4), some (x5), some (x6), some (.fn 40), some ((.str (NR x4))), some (.lst [(.str [99, 111, 100, 101]), (.str [116, 111, 108, 100]), (.str [99, 111, 100, 101]), (.str [116, 111, 108, 100]), (.str [99, 111, 100, 101]), (.str [116, 111, 108, 100]), (.str [99, 111, 100, 101]), (.str [119, 111, 114, 100]), (.str [116, 111, 108, 100])]), some (.ref (os.length + 1)), some (x4), some ((.str (NR x4))), none] (os ++ pb P :: [.lst [.tup [.str rsd, (.str [99, 111, 100, 101])], (.str [116, 111, 108, 100]), .tup [.str rsd, (.str [99, 111, 100, 101])], (.str [116, 111, 108, 100]), .tup [.str rsd, (.str [99, 111, 100, 101])], (.str [116, 111, 108, 100]), .tup [.str rsd, (.str [99, 111, 100, 101])], .tup [.str rsd, (.str [119, 111, 114, 100])], (.str [116, 111, 108, 100]), .tup [.str rsd, (.str [99, 111, 100, 101])], .tup [.str rsd, (.str (NR x4))], (.str [116, 111, 108, 100])]])) = ((SP a b c).map fun os => (.ok (.nx [some (.ref os.length), some (.ins 0 [.tup [.int 25, .int 7], .int 5]), some (x2), some (x3), some (x4), some (x5), some (x6), some (.fn 40), some ((.str (NR x4))), some (.lst [(.str [99, 111, 100, 101]), (.str [116, 111, 108, 100]), (.str [99, 111, 100, 101]), (.str [116, 111, 108, 100]), (.str [99, 111, 100, 101]), (.str [116, 111, 108, 100]), (.str [99, 111, 100, 101]), (.str [119, 111, 114, 100]), (.str [116, 111, 108, 100]), (.str [99, 111, 100, 101]), (.str (NR x4)), (.str [116, 111, 108, 100])]), some (.ref (os.length + 1)), some (x4), some ((.str (NR x4))), none]) (os ++ pb P :: [.lst [.tup [.str rsd, (.str [99, 111, 100, 101])], (.str [116, 111, 108, 100]), .tup [.str rsd, (.str [99, 111, 100, 101])], (.str [116, 111, 108, 100]), .tup [.str rsd, (.str [99, 111, 100, 101])], (.str [116, 111, 108, 100]), .tup [.str rsd, (.str [99, 111, 100, 101])], .tup [.str rsd, (.str [119, 111, 114, 100])], (.str [116, 111, 108, 100]), .tup [.str rsd, (.str [99, 111, 100, 101])], .tup [.str rsd, (.str (NR x4))], (.str [116, 111, 108, 100])]]) : R Oc)) := by kernel_rfl
theorem tTq17 (a b c P : T3) (x2 x3 x4 x5 x6 : Vl) : ∀ os ∈ SP a b c,  evS G4 LOW (.set 9 (.fz (.cat (.var 9) (.fz (.disp (.acons (.str [99, 111, 100, 101]) (.acons (.var 12) (.acons (.str [116, 111, 108, 100]) .anil)))))))) [some (.ref os.length), some (.ins 0 [.tup [.int 25, .int 7], .int 5]), some (x2), some (x3), some (x4), some (x5), some (x6), some (.fn 40), some ((.str (NR x4))), some (.lst [(.str [99, 111, 100, 101]), (.str [116, 111, 108, 100]), (.str [99, 111, 100, 101]), (.str [116, 111, 108, 100]), (.str [99, 111, 100, 101]), (.str [116, 111, 108, 100]), (.str [99, 111, 100, 101]), (.str [119, 111, 114, 100]), (.str [116, 111, 108, 100])]), some (.ref (os.length + 1)), some (x4), some ((.str (NR x4))), none] (os ++ pb P :: [.lst [.tup [.str rsd, (.str [99, 111, 100, 101])], (.str [116, 111, 108, 100]), .tup [.str rsd, (.str [99, 111, 100, 101])], (.str [116, 111, 108, 100]), .tup [.str rsd, (.str [99, 111, 100, 101])], (.str [116, 111, 108, 100]), .tup [.str rsd, (.str [99, 111, 100, 101])], .tup [.str rsd, (.str [119, 111, 114, 100])], (.str [116, 111, 108, 100]), .tup [.str rsd, (.str [99, 111, 100, 101])], .tup [.str rsd, (.str (NR x4))], (.str [116, 111, 108, 100])]]) = (.ok (.nx [some (.ref os.length), some (.ins 0 [.tup [.int 25, .int 7], .int 5]), some (x2), some (x3), some (x4), some (x5), some (x6), some (.fn 40), some ((.str (NR x4))), some (.lst [(.str [99, 111, 100, 101]), (.str [116, 111, 108, 100]), (.str [99, 111, 100, 101]), (.str [116, 111, 108, 100]), (.str [99, 111, 100, 101]), (.str [116, 111, 108, 100]), (.str [99, 111, 100, 101]), (.str [119, 111, 114, 100]), (.str [116, 111, 108, 100]), (.str [99, 111, 100, 101]), (.str (NR x4)), (.str [116, 111, 108, 100])]), some (.ref (os.length + 1)), some (x4), some ((.str (NR x4))), none]) (os ++ pb P :: [.lst [.tup [.str rsd, (.str [99, 111, 100, 101])], (.str [116, 111, 108, 100]), .tup [.str rsd, (.str [99, 111, 100, 101])], (.str [116, 111, 108, 100]), .tup [.str rsd, (.str [99, 111, 100, 101])], (.str [116, 111, 108, 100]), .tup [.str rsd, (.str [99, 111, 100, 101])], .tup [.str rsd, (.str [119, 111, 114, 100])], (.str [116, 111, 108, 100]), .tup [.str rsd, (.str [99, 111, 100, 101])], .tup [.str rsd, (.str (NR x4))], (.str [116, 111, 108, 100])]]) : R Oc) := fun os ho => all1 (kTq17 a b c P x2 x3 x4 x5 x6) os ho
theorem kTw11 (a b c P : T3) (x2 x3 x4 x5 x6 : Vl) : ((SP a b c).map fun os => evW G4 LOW (.over (.tup (.acons (.gl 49) (.acons (.gl 53) .anil)))) [some (.ref os.length), some (.ins 0 [.tup [.int 25, .int 7], .int 5]), some (x2), some (x3), some (x4), some (x5), some (x6), some (.fn 40), some ((.str (NR x4))), some (.lst [(.str [99, 111, 100, 101]), (.str [116, 111, 108, 100]), (.str [99, 111, 100, 101]), (.str [116, 111, 108, 100]), (.str [99, 111, 100, 101]), (.str [116, 111, 108, 100]), (.str [99, 111, 100, 101]), (.str [119, 111, 114, 100]), (.str [116, 111, 108, 100]), (.str [99, 111, 100, 101]), (.str (NR x4)), (.str [116, 111, 108, 100])]), some (.ref (os.length + 1)), some (x4), some ((.str (NR x4))), none] (os ++ pb P :: [.lst [.tup [.str rsd, (.str [99, 111, 100, 101])], (.str [116, 111, 108, 100]), .tup [.str rsd, (.str [99, 111, 100, 101])], (.str [116, 111, 108, 100]), .tup [.str rsd, (.str [99, 111, 100, 101])], (.str [116, 111, 108, 100]), .tup [.str rsd, (.str [99, 111, 100, 101])], .tup [.str rsd, (.str [119, 111, 114, 100])], (.str [116, 111, 108, 100]), .tup [.str rsd, (.str [99, 111, 100, 101])], .tup [.str rsd, (.str (NR x4))], (.str [116, 111, 108, 100])]])) = ((SP a b c).map fun os => (.ok (.its [.fn 38, .fn 42]) (os ++ pb P :: [.lst [.tup [.str rsd, (.str [99, 111, 100, 101])], (.str [116, 111, 108, 100]), .tup [.str rsd, (.str [99, 111, 100, 101])], (.str [116, 111, 108, 100]), .tup [.str rsd, (.str [99, 111, 100, 101])], (.str [116, 111, 108, 100]), .tup [.str rsd, (.str [99, 111, 100, 101])], .tup [.str rsd, (.str [119, 111, 114, 100])], (.str [116, 111, 108, 100]), .tup [.str rsd, (.str [99, 111, 100, 101])], .tup [.str rsd, (.str (NR x4))], (.str [116, 111, 108, 100])]]) : R Wk)) := by kernel_rfl
theorem tTw11 (a b c P : T3) (x2 x3 x4 x5 x6 : Vl) : ∀ os ∈ SP a b c,  evW G4 LOW (.over (.tup (.acons (.gl 49) (.acons (.gl 53) .anil)))) [some (.ref os.length), some (.ins 0 [.tup [.int 25, .int 7], .int 5]), some (x2), some (x3), some (x4), some (x5), some (x6), some (.fn 40), some ((.str (NR x4))), some (.lst [(.str [99, 111, 100, 101]), (.str [116, 111, 108, 100]), (.str [99, 111, 100, 101]), (.str [116, 111, 108, 100]), (.str [99, 111, 100, 101]), (.str [116, 111, 108, 100]), (.str [99, 111, 100, 101]), (.str [119, 111, 114, 100]), (.str [116, 111, 108, 100]), (.str [99, 111, 100, 101]), (.str (NR x4)), (.str [116, 111, 108, 100])]), some (.ref (os.length + 1)), some (x4), some ((.str (NR x4))), none] (os ++ pb P :: [.lst [.tup [.str rsd, (.str [99, 111, 100, 101])], (.str [116, 111, 108, 100]), .tup [.str rsd, (.str [99, 111, 100, 101])], (.str [116, 111, 108, 100]), .tup [.str rsd, (.str [99, 111, 100, 101])], (.str [116, 111, 108, 100]), .tup [.str rsd, (.str [99, 111, 100, 101])], .tup [.str rsd, (.str [119, 111, 114, 100])], (.str [116, 111, 108, 100]), .tup [.str rsd, (.str [99, 111, 100, 101])], .tup [.str rsd, (.str (NR x4))], (.str [116, 111, 108, 100])]]) = (.ok (.its [.fn 38, .fn 42]) (os ++ pb P :: [.lst [.tup [.str rsd, (.str [99, 111, 100, 101])], (.str [116, 111, 108, 100]), .tup [.str rsd, (.str [99, 111, 100, 101])], (.str [116, 111, 108, 100]), .tup [.str rsd, (.str [99, 111, 100, 101])], (.str [116, 111, 108, 100]), .tup [.str rsd, (.str [99, 111, 100, 101])], .tup [.str rsd, (.str [119, 111, 114, 100])], (.str [116, 111, 108, 100]), .tup [.str rsd, (.str [99, 111, 100, 101])], .tup [.str rsd, (.str (NR x4))], (.str [116, 111, 108, 100])]]) : R Wk) := fun os ho => all1 (kTw11 a b c P x2 x3 x4 x5 x6) os ho
theorem kTq18 (a b c P : T3) (x2 x3 x4 x5 : Vl) : ((SP a b c).map fun os => LT6.map fun x6 => evS G4 LOW (.ex (.mth .append (.var 10) (.acons (.lamc 46 (.callv 7 (.acons (.var 6) .anil))) .anil))) [some (.ref os.length), some (.ins 0 [.tup [.int 25, .int 7], .int 5]), some (x2), some (x3), some (x4), some (x5), some (x6), some (.fn 38), some ((.str (NR x4))), some (.lst [(.str [99, 111, 100, 101]), (.str [116, 111, 108, 100]), (.str [99, 111, 100, 101]), (.str [116, 111, 108, 100]), (.str [99, 111, 100, 101]), (.str [116, 111, 108, 100]), (.str [99, 111, 100, 101]), (.str [119, 111, 114, 100]), (.str [116, 111, 108, 100]), (.str [99, 111, 100, 101]), (.str (NR x4)), (.str [116, 111, 108, 100])]), some (.ref (os.length + 1)), some (x4), some ((.str (NR x4))), none] (os ++ pb P :: [.lst [.tup [.str rsd, (.str [99, 111, 100, 101])], (.str [116, 111, 108, 100]), .tup [.str rsd, (.str [99, 111, 100, 101])], (.str [116, 111, 108, 100]), .tup [.str rsd, (.str [99, 111, 100, 101])], (.str [116, 111, 108, 100]), .tup [.str rsd, (.str [99, 111, 100, 101])], .tup [.str rsd, (.str [119, 111, 114, 100])], (.str [116, 111, 108, 100]), .tup [.str rsd, (.str [99, 111, 100, 101])], .tup [.str rsd, (.str (NR x4))], (.str [116, 111, 108, 100])]])) = ((SP a b c).map fun os => LT6.map fun x6 => (.ok (.nx [some (.ref os.length), some (.ins 0 [.tup [.int 25, .int 7], .int 5]), some (x2), some (x3), some (x4), some (x5), some (x6), some (.fn 38), some ((.str (NR x4))), some (.lst [(.str [99, 111, 100, 101]), (.str [116, 111, 108, 100]), (.str [99, 111, 100, 101]), (.str [116, 111, 108, 100]), (.str [99, 111, 100, 101]), (.str [116, 111, 108, 100]), (.str [99, 111, 100, 101]), (.str [119, 111, 114, 100]), (.str [116, 111, 108, 100]), (.str [99, 111, 100, 101]), (.str (NR x4)), (.str [116, 111, 108, 100])]), some (.ref (os.length + 1)), some (x4), some ((.str (NR x4))), none]) (os ++ pb P :: [.lst [.tup [.str rsd, (.str [99, 111, 100, 101])], (.str [116, 111, 108, 100]), .tup [.str rsd, (.str [99, 111, 100, 101])], (.str [116, 111, 108, 100]), .tup [.str rsd, (.str [99, 111, 100, 101])], (.str [116, 111, 108, 100]), .tup [.str rsd, (.str [99, 111, 100, 101])], .tup [.str rsd, (.str [119, 111, 114, 100])], (.str [116, 111, 108, 100]), .tup [.str rsd, (.str [99, 111, 100, 101])], .tup [.str rsd, (.str (NR x4))], (.str [116, 111, 108, 100]), .tup [.str rsd, (.str [99, 111, 117, 110, 116, 115])]]]) : R Oc)) := by kernel_rfl
theorem tTq18 (a b c P : T3) (x2 x3 x4 x5 : Vl) : ∀ os ∈ SP a b c, ∀ x6 ∈ LT6, evS G4 LOW (.ex (.mth .append (.var 10) (.acons (.lamc 46 (.callv 7 (.acons (.var 6) .anil))) .anil))) [some (.ref os.length), some (.ins 0 [.tup [.int 25, .int 7], .int 5]), some (x2), some (x3), some (x4), some (x5), some (x6), some (.fn 38), some ((.str (NR x4))), some (.lst [(.str [99, 111, 100, 101]), (.str [116, 111, 108, 100]), (.str [99, 111, 100, 101]), (.str [116, 111, 108, 100]), (.str [99, 111, 100, 101]), (.str [116, 111, 108, 100]), (.str [99, 111, 100, 101]), (.str [119, 111, 114, 100]), (.str [116, 111, 108, 100]), (.str [99, 111, 100, 101]), (.str (NR x4)), (.str [116, 111, 108, 100])]), some (.ref (os.length + 1)), some (x4), some ((.str (NR x4))), none] (os ++ pb P :: [.lst [.tup [.str rsd, (.str [99, 111, 100, 101])], (.str [116, 111, 108, 100]), .tup [.str rsd, (.str [99, 111, 100, 101])], (.str [116, 111, 108, 100]), .tup [.str rsd, (.str [99, 111, 100, 101])], (.str [116, 111, 108, 100]), .tup [.str rsd, (.str [99, 111, 100, 101])], .tup [.str rsd, (.str [119, 111, 114, 100])], (.str [116, 111, 108, 100]), .tup [.str rsd, (.str [99, 111, 100, 101])], .tup [.str rsd, (.str (NR x4))], (.str [116, 111, 108, 100])]]) = (.ok (.nx [some (.ref os.length), some (.ins 0 [.tup [.int 25, .int 7], .int 5]), some (x2), some (x3), some (x4), some (x5), some (x6), some (.fn 38), some ((.str (NR x4))), some (.lst [(.str [99, 111, 100, 101]), (.str [116, 111, 108, 100]), (.str [99, 111, 100, 101]), (.str [116, 111, 108, 100]), (.str [99, 111, 100, 101]), (.str [116, 111, 108, 100]), (.str [99, 111, 100, 101]), (.str [119, 111, 114, 100]), (.str [116, 111, 108, 100]), (.str [99, 111, 100, 101]), (.str (NR x4)), (.str [116, 111, 108, 100])]), some (.ref (os.length + 1)), some (x4), some ((.str (NR x4))), none]) (os ++ pb P :: [.lst [.tup [.str rsd, (.str [99, 111, 100, 101])], (.str [116, 111, 108, 100]), .tup [.str rsd, (.str [99, 111, 100, 101])], (.str [116, 111, 108, 100]), .tup [.str rsd, (.str [99, 111, 100, 101])], (.str [116, 111, 108, 100]), .tup [.str rsd, (.str [99, 111, 100, 101])], .tup [.str rsd, (.str [119, 111, 114, 100])], (.str [116, 111, 108, 100]), .tup [.str rsd, (.str [99, 111, 100, 101])], .tup [.str rsd, (.str (NR x4))], (.str [116, 111, 108, 100]), .tup [.str rsd, (.str [99, 111, 117, 110, 116, 115])]]]) : R Oc) := fun os ho x6 hx6 => all1 (all1 (kTq18 a b c P x2 x3 x4 x5) os ho) x6 hx6
theorem kTq19 (a b c P : T3) (x2 x3 x4 x5 x6 : Vl) : ((SP a b c).map fun os => evS G4 LOW (.ex (.mth .append (.var 10) (.acons (.lamc 46 (.callv 7 (.acons (.tup (.acons (.bin .pow (.int 10) (.int 59)) (.acons (.bin .sub (.int 0) (.bin .pow (.int 10) (.int 59))) .anil))) .anil))) .anil))) [some (.ref os.length), some (.ins 0 [.tup [.int 25, .int 7], .int 5]), some (x2), some (x3), some (x4), some (x5), some (x6), some (.fn 38), some ((.str (NR x4))), some (.lst [(.str [99, 111, 100, 101]), (.str [116, 111, 108, 100]), (.str [99, 111, 100, 101]), (.str [116, 111, 108, 100]), (.str [99, 111, 100, 101]), (.str [116, 111, 108, 100]), (.str [99, 111, 100, 101]), (.str [119, 111, 114, 100]), (.str [116, 111, 108, 100]), (.str [99, 111, 100, 101]), (.str (NR x4)), (.str [116, 111, 108, 100])]), some (.ref (os.length + 1)), some (x4), some ((.str (NR x4))), none] (os ++ pb P :: [.lst [.tup [.str rsd, (.str [99, 111, 100, 101])], (.str [116, 111, 108, 100]), .tup [.str rsd, (.str [99, 111, 100, 101])], (.str [116, 111, 108, 100]), .tup [.str rsd, (.str [99, 111, 100, 101])], (.str [116, 111, 108, 100]), .tup [.str rsd, (.str [99, 111, 100, 101])], .tup [.str rsd, (.str [119, 111, 114, 100])], (.str [116, 111, 108, 100]), .tup [.str rsd, (.str [99, 111, 100, 101])], .tup [.str rsd, (.str (NR x4))], (.str [116, 111, 108, 100]), .tup [.str rsd, (.str [99, 111, 117, 110, 116, 115])]]])) = ((SP a b c).map fun os => (.ok (.nx [some (.ref os.length), some (.ins 0 [.tup [.int 25, .int 7], .int 5]), some (x2), some (x3), some (x4), some (x5), some (x6), some (.fn 38), some ((.str (NR x4))), some (.lst [(.str [99, 111, 100, 101]), (.str [116, 111, 108, 100]), (.str [99, 111, 100, 101]), (.str [116, 111, 108, 100]), (.str [99, 111, 100, 101]), (.str [116, 111, 108, 100]), (.str [99, 111, 100, 101]), (.str [119, 111, 114, 100]), (.str [116, 111, 108, 100]), (.str [99, 111, 100, 101]), (.str (NR x4)), (.str [116, 111, 108, 100])]), some (.ref (os.length + 1)), some (x4), some ((.str (NR x4))), none]) (os ++ pb P :: [.lst [.tup [.str rsd, (.str [99, 111, 100, 101])], (.str [116, 111, 108, 100]), .tup [.str rsd, (.str [99, 111, 100, 101])], (.str [116, 111, 108, 100]), .tup [.str rsd, (.str [99, 111, 100, 101])], (.str [116, 111, 108, 100]), .tup [.str rsd, (.str [99, 111, 100, 101])], .tup [.str rsd, (.str [119, 111, 114, 100])], (.str [116, 111, 108, 100]), .tup [.str rsd, (.str [99, 111, 100, 101])], .tup [.str rsd, (.str (NR x4))], (.str [116, 111, 108, 100]), .tup [.str rsd, (.str [99, 111, 117, 110, 116, 115])], (.str [116, 111, 108, 100])]]) : R Oc)) := by kernel_rfl
theorem tTq19 (a b c P : T3) (x2 x3 x4 x5 x6 : Vl) : ∀ os ∈ SP a b c,  evS G4 LOW (.ex (.mth .append (.var 10) (.acons (.lamc 46 (.callv 7 (.acons (.tup (.acons (.bin .pow (.int 10) (.int 59)) (.acons (.bin .sub (.int 0) (.bin .pow (.int 10) (.int 59))) .anil))) .anil))) .anil))) [some (.ref os.length), some (.ins 0 [.tup [.int 25, .int 7], .int 5]), some (x2), some (x3), some (x4), some (x5), some (x6), some (.fn 38), some ((.str (NR x4))), some (.lst [(.str [99, 111, 100, 101]), (.str [116, 111, 108, 100]), (.str [99, 111, 100, 101]), (.str [116, 111, 108, 100]), (.str [99, 111, 100, 101]), (.str [116, 111, 108, 100]), (.str [99, 111, 100, 101]), (.str [119, 111, 114, 100]), (.str [116, 111, 108, 100]), (.str [99, 111, 100, 101]), (.str (NR x4)), (.str [116, 111, 108, 100])]), some (.ref (os.length + 1)), some (x4), some ((.str (NR x4))), none] (os ++ pb P :: [.lst [.tup [.str rsd, (.str [99, 111, 100, 101])], (.str [116, 111, 108, 100]), .tup [.str rsd, (.str [99, 111, 100, 101])], (.str [116, 111, 108, 100]), .tup [.str rsd, (.str [99, 111, 100, 101])], (.str [116, 111, 108, 100]), .tup [.str rsd, (.str [99, 111, 100, 101])], .tup [.str rsd, (.str [119, 111, 114, 100])], (.str [116, 111, 108, 100]), .tup [.str rsd, (.str [99, 111, 100, 101])], .tup [.str rsd, (.str (NR x4))], (.str [116, 111, 108, 100]), .tup [.str rsd, (.str [99, 111, 117, 110, 116, 115])]]]) = (.ok (.nx [some (.ref os.length), some (.ins 0 [.tup [.int 25, .int 7], .int 5]), some (x2), some (x3), some (x4), some (x5), some (x6), some (.fn 38), some ((.str (NR x4))), some (.lst [(.str [99, 111, 100, 101]), (.str [116, 111, 108, 100]), (.str [99, 111, 100, 101]), (.str [116, 111, 108, 100]), (.str [99, 111, 100, 101]), (.str [116, 111, 108, 100]), (.str [99, 111, 100, 101]), (.str [119, 111, 114, 100]), (.str [116, 111, 108, 100]), (.str [99, 111, 100, 101]), (.str (NR x4)), (.str [116, 111, 108, 100])]), some (.ref (os.length + 1)), some (x4), some ((.str (NR x4))), none]) (os ++ pb P :: [.lst [.tup [.str rsd, (.str [99, 111, 100, 101])], (.str [116, 111, 108, 100]), .tup [.str rsd, (.str [99, 111, 100, 101])], (.str [116, 111, 108, 100]), .tup [.str rsd, (.str [99, 111, 100, 101])], (.str [116, 111, 108, 100]), .tup [.str rsd, (.str [99, 111, 100, 101])], .tup [.str rsd, (.str [119, 111, 114, 100])], (.str [116, 111, 108, 100]), .tup [.str rsd, (.str [99, 111, 100, 101])], .tup [.str rsd, (.str (NR x4))], (.str [116, 111, 108, 100]), .tup [.str rsd, (.str [99, 111, 117, 110, 116, 115])], (.str [116, 111, 108, 100])]]) : R Oc) := fun os ho => all1 (kTq19 a b c P x2 x3 x4 x5 x6) os ho
theorem kTq20 (a b c P : T3) (x2 x3 x4 x5 x6 : Vl) : ((SP a b c).map fun os => evS G4 LOW (.set 9 (.fz (.cat (.var 9) (.fz (.disp (.acons (.str [99, 111, 117, 110, 116, 115]) (.acons (.str [116, 111, 108, 100]) .anil))))))) [some (.ref os.length), some (.ins 0 [.tup [.int 25, .int 7], .int 5]), some (x2), some (x3), some (x4), some (x5), some (x6), some (.fn 38), some ((.str (NR x4))), some (.lst [(.str [99, 111, 100, 101]), (.str [116, 111, 108, 100]), (.str [99, 111, 100, 101]), (.str [116, 111, 108, 100]), (.str [99, 111, 100, 101]), (.str [116, 111, 108, 100]), (.str [99, 111, 100, 101]), (.str [119, 111, 114, 100]), (.str [116, 111, 108, 100]), (.str [99, 111, 100, 101]), (.str (NR x4)), (.str [116, 111, 108, 100])]), some (.ref (os.length + 1)), some (x4), some ((.str (NR x4))), none] (os ++ pb P :: [.lst [.tup [.str rsd, (.str [99, 111, 100, 101])], (.str [116, 111, 108, 100]), .tup [.str rsd, (.str [99, 111, 100, 101])], (.str [116, 111, 108, 100]), .tup [.str rsd, (.str [99, 111, 100, 101])], (.str [116, 111, 108, 100]), .tup [.str rsd, (.str [99, 111, 100, 101])], .tup [.str rsd, (.str [119, 111, 114, 100])], (.str [116, 111, 108, 100]), .tup [.str rsd, (.str [99, 111, 100, 101])], .tup [.str rsd, (.str (NR x4))], (.str [116, 111, 108, 100]), .tup [.str rsd, (.str [99, 111, 117, 110, 116, 115])], (.str [116, 111, 108, 100])]])) = ((SP a b c).map fun os => (.ok (.nx [some (.ref os.length), some (.ins 0 [.tup [.int 25, .int 7], .int 5]), some (x2), some (x3), some (x4), some (x5), some (x6), some (.fn 38), some ((.str (NR x4))), some (.lst [(.str [99, 111, 100, 101]), (.str [116, 111, 108, 100]), (.str [99, 111, 100, 101]), (.str [116, 111, 108, 100]), (.str [99, 111, 100, 101]), (.str [116, 111, 108, 100]), (.str [99, 111, 100, 101]), (.str [119, 111, 114, 100]), (.str [116, 111, 108, 100]), (.str [99, 111, 100, 101]), (.str (NR x4)), (.str [116, 111, 108, 100]), (.str [99, 111, 117, 110, 116, 115]), (.str [116, 111, 108, 100])]), some (.ref (os.length + 1)), some (x4), some ((.str (NR x4))), none]) (os ++ pb P :: [.lst [.tup [.str rsd, (.str [99, 111, 100, 101])], (.str [116, 111, 108, 100]), .tup [.str rsd, (.str [99, 111, 100, 101])], (.str [116, 111, 108, 100]), .tup [.str rsd, (.str [99, 111, 100, 101])], (.str [116, 111, 108, 100]), .tup [.str rsd, (.str [99, 111, 100, 101])], .tup [.str rsd, (.str [119, 111, 114, 100])], (.str [116, 111, 108, 100]), .tup [.str rsd, (.str [99, 111, 100, 101])], .tup [.str rsd, (.str (NR x4))], (.str [116, 111, 108, 100]), .tup [.str rsd, (.str [99, 111, 117, 110, 116, 115])], (.str [116, 111, 108, 100])]]) : R Oc)) := by kernel_rfl
theorem tTq20 (a b c P : T3) (x2 x3 x4 x5 x6 : Vl) : ∀ os ∈ SP a b c,  evS G4 LOW (.set 9 (.fz (.cat (.var 9) (.fz (.disp (.acons (.str [99, 111, 117, 110, 116, 115]) (.acons (.str [116, 111, 108, 100]) .anil))))))) [some (.ref os.length), some (.ins 0 [.tup [.int 25, .int 7], .int 5]), some (x2), some (x3), some (x4), some (x5), some (x6), some (.fn 38), some ((.str (NR x4))), some (.lst [(.str [99, 111, 100, 101]), (.str [116, 111, 108, 100]), (.str [99, 111, 100, 101]), (.str [116, 111, 108, 100]), (.str [99, 111, 100, 101]), (.str [116, 111, 108, 100]), (.str [99, 111, 100, 101]), (.str [119, 111, 114, 100]), (.str [116, 111, 108, 100]), (.str [99, 111, 100, 101]), (.str (NR x4)), (.str [116, 111, 108, 100])]), some (.ref (os.length + 1)), some (x4), some ((.str (NR x4))), none] (os ++ pb P :: [.lst [.tup [.str rsd, (.str [99, 111, 100, 101])], (.str [116, 111, 108, 100]), .tup [.str rsd, (.str [99, 111, 100, 101])], (.str [116, 111, 108, 100]), .tup [.str rsd, (.str [99, 111, 100, 101])], (.str [116, 111, 108, 100]), .tup [.str rsd, (.str [99, 111, 100, 101])], .tup [.str rsd, (.str [119, 111, 114, 100])], (.str [116, 111, 108, 100]), .tup [.str rsd, (.str [99, 111, 100, 101])], .tup [.str rsd, (.str (NR x4))], (.str [116, 111, 108, 100]), .tup [.str rsd, (.str [99, 111, 117, 110, 116, 115])], (.str [116, 111, 108, 100])]]) = (.ok (.nx [some (.ref os.length), some (.ins 0 [.tup [.int 25, .int 7], .int 5]), some (x2), some (x3), some (x4), some (x5), some (x6), some (.fn 38), some ((.str (NR x4))), some (.lst [(.str [99, 111, 100, 101]), (.str [116, 111, 108, 100]), (.str [99, 111, 100, 101]), (.str [116, 111, 108, 100]), (.str [99, 111, 100, 101]), (.str [116, 111, 108, 100]), (.str [99, 111, 100, 101]), (.str [119, 111, 114, 100]), (.str [116, 111, 108, 100]), (.str [99, 111, 100, 101]), (.str (NR x4)), (.str [116, 111, 108, 100]), (.str [99, 111, 117, 110, 116, 115]), (.str [116, 111, 108, 100])]), some (.ref (os.length + 1)), some (x4), some ((.str (NR x4))), none]) (os ++ pb P :: [.lst [.tup [.str rsd, (.str [99, 111, 100, 101])], (.str [116, 111, 108, 100]), .tup [.str rsd, (.str [99, 111, 100, 101])], (.str [116, 111, 108, 100]), .tup [.str rsd, (.str [99, 111, 100, 101])], (.str [116, 111, 108, 100]), .tup [.str rsd, (.str [99, 111, 100, 101])], .tup [.str rsd, (.str [119, 111, 114, 100])], (.str [116, 111, 108, 100]), .tup [.str rsd, (.str [99, 111, 100, 101])], .tup [.str rsd, (.str (NR x4))], (.str [116, 111, 108, 100]), .tup [.str rsd, (.str [99, 111, 117, 110, 116, 115])], (.str [116, 111, 108, 100])]]) : R Oc) := fun os ho => all1 (kTq20 a b c P x2 x3 x4 x5 x6) os ho
theorem kTq21 (a b c P : T3) (x2 x3 x4 x5 : Vl) : ((SP a b c).map fun os => LT6.map fun x6 => evS G4 LOW (.ex (.mth .append (.var 10) (.acons (.lamc 46 (.callv 7 (.acons (.var 6) .anil))) .anil))) [some (.ref os.length), some (.ins 0 [.tup [.int 25, .int 7], .int 5]), some (x2), some (x3), some (x4), some (x5), some (x6), some (.fn 42), some ((.str (NR x4))), some (.lst [(.str [99, 111, 100, 101]), (.str [116, 111, 108, 100]), (.str [99, 111, 100, 101]), (.str [116, 111, 108, 100]), (.str [99, 111, 100, 101]), (.str [116, 111, 108, 100]), (.str [99, 111, 100, 101]), (.str [119, 111, 114, 100]), (.str [116, 111, 108, 100]), (.str [99, 111, 100, 101]), (.str (NR x4)), (.str [116, 111, 108, 100]), (.str [99, 111, 117, 110, 116, 115]), (.str [116, 111, 108, 100])]), some (.ref (os.length + 1)), some (x4), some ((.str (NR x4))), none] (os ++ pb P :: [.lst [.tup [.str rsd, (.str [99, 111, 100, 101])], (.str [116, 111, 108, 100]), .tup [.str rsd, (.str [99, 111, 100, 101])], (.str [116, 111, 108, 100]), .tup [.str rsd, (.str [99, 111, 100, 101])], (.str [116, 111, 108, 100]), .tup [.str rsd, (.str [99, 111, 100, 101])], .tup [.str rsd, (.str [119, 111, 114, 100])], (.str [116, 111, 108, 100]), .tup [.str rsd, (.str [99, 111, 100, 101])], .tup [.str rsd, (.str (NR x4))], (.str [116, 111, 108, 100]), .tup [.str rsd, (.str [99, 111, 117, 110, 116, 115])], (.str [116, 111, 108, 100])]])) = ((SP a b c).map fun os => LT6.map fun x6 => (.ok (.nx [some (.ref os.length), some (.ins 0 [.tup [.int 25, .int 7], .int 5]), some (x2), some (x3), some (x4), some (x5), some (x6), some (.fn 42), some ((.str (NR x4))), some (.lst [(.str [99, 111, 100, 101]), (.str [116, 111, 108, 100]), (.str [99, 111, 100, 101]), (.str [116, 111, 108, 100]), (.str [99, 111, 100, 101]), (.str [116, 111, 108, 100]), (.str [99, 111, 100, 101]), (.str [119, 111, 114, 100]), (.str [116, 111, 108, 100]), (.str [99, 111, 100, 101]), (.str (NR x4)), (.str [116, 111, 108, 100]), (.str [99, 111, 117, 110, 116, 115]), (.str [116, 111, 108, 100])]), some (.ref (os.length + 1)), some (x4), some ((.str (NR x4))), none]) (os ++ pb P :: [.lst [.tup [.str rsd, (.str [99, 111, 100, 101])], (.str [116, 111, 108, 100]), .tup [.str rsd, (.str [99, 111, 100, 101])], (.str [116, 111, 108, 100]), .tup [.str rsd, (.str [99, 111, 100, 101])], (.str [116, 111, 108, 100]), .tup [.str rsd, (.str [99, 111, 100, 101])], .tup [.str rsd, (.str [119, 111, 114, 100])], (.str [116, 111, 108, 100]), .tup [.str rsd, (.str [99, 111, 100, 101])], .tup [.str rsd, (.str (NR x4))], (.str [116, 111, 108, 100]), .tup [.str rsd, (.str [99, 111, 117, 110, 116, 115])], (.str [116, 111, 108, 100]), .tup [.str rsd, (.str [99, 111, 117, 110, 116, 115])]]]) : R Oc)) := by kernel_rfl
theorem tTq21 (a b c P : T3) (x2 x3 x4 x5 : Vl) : ∀ os ∈ SP a b c, ∀ x6 ∈ LT6, evS G4 LOW (.ex (.mth .append (.var 10) (.acons (.lamc 46 (.callv 7 (.acons (.var 6) .anil))) .anil))) [some (.ref os.length), some (.ins 0 [.tup [.int 25, .int 7], .int 5]), some (x2), some (x3), some (x4), some (x5), some (x6), some (.fn 42), some ((.str (NR x4))), some (.lst [(.str [99, 111, 100, 101]), (.str [116, 111, 108, 100]), (.str [99, 111, 100, 101]), (.str [116, 111, 108, 100]), (.str [99, 111, 100, 101]), (.str [116, 111, 108, 100]), (.str [99, 111, 100, 101]), (.str [119, 111, 114, 100]), (.str [116, 111, 108, 100]), (.str [99, 111, 100, 101]), (.str (NR x4)), (.str [116, 111, 108, 100]), (.str [99, 111, 117, 110, 116, 115]), (.str [116, 111, 108, 100])]), some (.ref (os.length + 1)), some (x4), some ((.str (NR x4))), none] (os ++ pb P :: [.lst [.tup [.str rsd, (.str [99, 111, 100, 101])], (.str [116, 111, 108, 100]), .tup [.str rsd, (.str [99, 111, 100, 101])], (.str [116, 111, 108, 100]), .tup [.str rsd, (.str [99, 111, 100, 101])], (.str [116, 111, 108, 100]), .tup [.str rsd, (.str [99, 111, 100, 101])], .tup [.str rsd, (.str [119, 111, 114, 100])], (.str [116, 111, 108, 100]), .tup [.str rsd, (.str [99, 111, 100, 101])], .tup [.str rsd, (.str (NR x4))], (.str [116, 111, 108, 100]), .tup [.str rsd, (.str [99, 111, 117, 110, 116, 115])], (.str [116, 111, 108, 100])]]) = (.ok (.nx [some (.ref os.length), some (.ins 0 [.tup [.int 25, .int 7], .int 5]), some (x2), some (x3), some (x4), some (x5), some (x6), some (.fn 42), some ((.str (NR x4))), some (.lst [(.str [99, 111, 100, 101]), (.str [116, 111, 108, 100]), (.str [99, 111, 100, 101]), (.str [116, 111, 108, 100]), (.str [99, 111, 100, 101]), (.str [116, 111, 108, 100]), (.str [99, 111, 100, 101]), (.str [119, 111, 114, 100]), (.str [116, 111, 108, 100]), (.str [99, 111, 100, 101]), (.str (NR x4)), (.str [116, 111, 108, 100]), (.str [99, 111, 117, 110, 116, 115]), (.str [116, 111, 108, 100])]), some (.ref (os.length + 1)), some (x4), some ((.str (NR x4))), none]) (os ++ pb P :: [.lst [.tup [.str rsd, (.str [99, 111, 100, 101])], (.str [116, 111, 108, 100]), .tup [.str rsd, (.str [99, 111, 100, 101])], (.str [116, 111, 108, 100]), .tup [.str rsd, (.str [99, 111, 100, 101])], (.str [116, 111, 108, 100]), .tup [.str rsd, (.str [99, 111, 100, 101])], .tup [.str rsd, (.str [119, 111, 114, 100])], (.str [116, 111, 108, 100]), .tup [.str rsd, (.str [99, 111, 100, 101])], .tup [.str rsd, (.str (NR x4))], (.str [116, 111, 108, 100]), .tup [.str rsd, (.str [99, 111, 117, 110, 116, 115])], (.str [116, 111, 108, 100]), .tup [.str rsd, (.str [99, 111, 117, 110, 116, 115])]]]) : R Oc) := fun os ho x6 hx6 => all1 (all1 (kTq21 a b c P x2 x3 x4 x5) os ho) x6 hx6
theorem kTq22 (a b c P : T3) (x2 x3 x4 x5 x6 : Vl) : ((SP a b c).map fun os => evS G4 LOW (.ex (.mth .append (.var 10) (.acons (.lamc 46 (.callv 7 (.acons (.tup (.acons (.bin .pow (.int 10) (.int 59)) (.acons (.bin .sub (.int 0) (.bin .pow (.int 10) (.int 59))) .anil))) .anil))) .anil))) [some (.ref os.length), some (.ins 0 [.tup [.int 25, .int 7], .int 5]), some (x2), some (x3), some (x4), some (x5), some (x6), some (.fn 42), some ((.str (NR x4))), some (.lst [(.str [99, 111, 100, 101]), (.str [116, 111, 108, 100]), (.str [99, 111, 100, 101]), (.str [116, 111, 108, 100]), (.str [99, 111, 100, 101]), (.str [116, 111, 108, 100]), (.str [99, 111, 100, 101]), (.str [119, 111, 114, 100]), (.str [116, 111, 108, 100]), (.str [99, 111, 100, 101]), (.str (NR x4)), (.str [116, 111, 108, 100]), (.str [99, 111, 117, 110, 116, 115]), (.str [116, 111, 108, 100])]), some (.ref (os.length + 1)), some (x4), some ((.str (NR x4))), none] (os ++ pb P :: [.lst [.tup [.str rsd, (.str [99, 111, 100, 101])], (.str [116, 111, 108, 100]), .tup [.str rsd, (.str [99, 111, 100, 101])], (.str [116, 111, 108, 100]), .tup [.str rsd, (.str [99, 111, 100, 101])], (.str [116, 111, 108, 100]), .tup [.str rsd, (.str [99, 111, 100, 101])], .tup [.str rsd, (.str [119, 111, 114, 100])], (.str [116, 111, 108, 100]), .tup [.str rsd, (.str [99, 111, 100, 101])], .tup [.str rsd, (.str (NR x4))], (.str [116, 111, 108, 100]), .tup [.str rsd, (.str [99, 111, 117, 110, 116, 115])], (.str [116, 111, 108, 100]), .tup [.str rsd, (.str [99, 111, 117, 110, 116, 115])]]])) = ((SP a b c).map fun os => (.ok (.nx [some (.ref os.length), some (.ins 0 [.tup [.int 25, .int 7], .int 5]), some (x2), some (x3), some (x4), some (x5), some (x6), some (.fn 42), some ((.str (NR x4))), some (.lst [(.str [99, 111, 100, 101]), (.str [116, 111, 108, 100]), (.str [99, 111, 100, 101]), (.str [116, 111, 108, 100]), (.str [99, 111, 100, 101]), (.str [116, 111, 108, 100]), (.str [99, 111, 100, 101]), (.str [119, 111, 114, 100]), (.str [116, 111, 108, 100]), (.str [99, 111, 100, 101]), (.str (NR x4)), (.str [116, 111, 108, 100]), (.str [99, 111, 117, 110, 116, 115]), (.str [116, 111, 108, 100])]), some (.ref (os.length + 1)), some (x4), some ((.str (NR x4))), none]) (os ++ pb P :: [.lst [.tup [.str rsd, (.str [99, 111, 100, 101])], (.str [116, 111, 108, 100]), .tup [.str rsd, (.str [99, 111, 100, 101])], (.str [116, 111, 108, 100]), .tup [.str rsd, (.str [99, 111, 100, 101])], (.str [116, 111, 108, 100]), .tup [.str rsd, (.str [99, 111, 100, 101])], .tup [.str rsd, (.str [119, 111, 114, 100])], (.str [116, 111, 108, 100]), .tup [.str rsd, (.str [99, 111, 100, 101])], .tup [.str rsd, (.str (NR x4))], (.str [116, 111, 108, 100]), .tup [.str rsd, (.str [99, 111, 117, 110, 116, 115])], (.str [116, 111, 108, 100]), .tup [.str rsd, (.str [99, 111, 117, 110, 116, 115])], (.str [116, 111, 108, 100])]]) : R Oc)) := by kernel_rfl
theorem tTq22 (a b c P : T3) (x2 x3 x4 x5 x6 : Vl) : ∀ os ∈ SP a b c,  evS G4 LOW (.ex (.mth .append (.var 10) (.acons (.lamc 46 (.callv 7 (.acons (.tup (.acons (.bin .pow (.int 10) (.int 59)) (.acons (.bin .sub (.int 0) (.bin .pow (.int 10) (.int 59))) .anil))) .anil))) .anil))) [some (.ref os.length), some (.ins 0 [.tup [.int 25, .int 7], .int 5]), some (x2), some (x3), some (x4), some (x5), some (x6), some (.fn 42), some ((.str (NR x4))), some (.lst [(.str [99, 111, 100, 101]), (.str [116, 111, 108, 100]), (.str [99, 111, 100, 101]), (.str [116, 111, 108, 100]), (.str [99, 111, 100, 101]), (.str [116, 111, 108, 100]), (.str [99, 111, 100, 101]), (.str [119, 111, 114, 100]), (.str [116, 111, 108, 100]), (.str [99, 111, 100, 101]), (.str (NR x4)), (.str [116, 111, 108, 100]), (.str [99, 111, 117, 110, 116, 115]), (.str [116, 111, 108, 100])]), some (.ref (os.length + 1)), some (x4), some ((.str (NR x4))), none] (os ++ pb P :: [.lst [.tup [.str rsd, (.str [99, 111, 100, 101])], (.str [116, 111, 108, 100]), .tup [.str rsd, (.str [99, 111, 100, 101])], (.str [116, 111, 108, 100]), .tup [.str rsd, (.str [99, 111, 100, 101])], (.str [116, 111, 108, 100]), .tup [.str rsd, (.str [99, 111, 100, 101])], .tup [.str rsd, (.str [119, 111, 114, 100])], (.str [116, 111, 108, 100]), .tup [.str rsd, (.str [99, 111, 100, 101])], .tup [.str rsd, (.str (NR x4))], (.str [116, 111, 108, 100]), .tup [.str rsd, (.str [99, 111, 117, 110, 116, 115])], (.str [116, 111, 108, 100]), .tup [.str rsd, (.str [99, 111, 117, 110, 116, 115])]]]) = (.ok (.nx [some (.ref os.length), some (.ins 0 [.tup [.int 25, .int 7], .int 5]), some (x2), some (x3), some (x4), some (x5), some (x6), some (.fn 42), some ((.str (NR x4))), some (.lst [(.str [99, 111, 100, 101]), (.str [116, 111, 108, 100]), (.str [99, 111, 100, 101]), (.str [116, 111, 108, 100]), (.str [99, 111, 100, 101]), (.str [116, 111, 108, 100]), (.str [99, 111, 100, 101]), (.str [119, 111, 114, 100]), (.str [116, 111, 108, 100]), (.str [99, 111, 100, 101]), (.str (NR x4)), (.str [116, 111, 108, 100]), (.str [99, 111, 117, 110, 116, 115]), (.str [116, 111, 108, 100])]), some (.ref (os.length + 1)), some (x4), some ((.str (NR x4))), none]) (os ++ pb P :: [.lst [.tup [.str rsd, (.str [99, 111, 100, 101])], (.str [116, 111, 108, 100]), .tup [.str rsd, (.str [99, 111, 100, 101])], (.str [116, 111, 108, 100]), .tup [.str rsd, (.str [99, 111, 100, 101])], (.str [116, 111, 108, 100]), .tup [.str rsd, (.str [99, 111, 100, 101])], .tup [.str rsd, (.str [119, 111, 114, 100])], (.str [116, 111, 108, 100]), .tup [.str rsd, (.str [99, 111, 100, 101])], .tup [.str rsd, (.str (NR x4))], (.str [116, 111, 108, 100]), .tup [.str rsd, (.str [99, 111, 117, 110, 116, 115])], (.str [116, 111, 108, 100]), .tup [.str rsd, (.str [99, 111, 117, 110, 116, 115])], (.str [116, 111, 108, 100])]]) : R Oc) := fun os ho => all1 (kTq22 a b c P x2 x3 x4 x5 x6) os ho
theorem kTq23 (a b c P : T3) (x2 x3 x4 x5 x6 : Vl) : ((SP a b c).map fun os => evS G4 LOW (.set 9 (.fz (.cat (.var 9) (.fz (.disp (.acons (.str [99, 111, 117, 110, 116, 115]) (.acons (.str [116, 111, 108, 100]) .anil))))))) [some (.ref os.length), some (.ins 0 [.tup [.int 25, .int 7], .int 5]), some (x2), some (x3), some (x4), some (x5), some (x6), some (.fn 42), some ((.str (NR x4))), some (.lst [(.str [99, 111, 100, 101]), (.str [116, 111, 108, 100]), (.str [99, 111, 100, 101]), (.str [116, 111, 108, 100]), (.str [99, 111, 100, 101]), (.str [116, 111, 108, 100]), (.str [99, 111, 100, 101]), (.str [119, 111, 114, 100]), (.str [116, 111, 108, 100]), (.str [99, 111, 100, 101]), (.str (NR x4)), (.str [116, 111, 108, 100]), (.str [99, 111, 117, 110, 116, 115]), (.str [116, 111, 108, 100])]), some (.ref (os.length + 1)), some (x4), some ((.str (NR x4))), none] (os ++ pb P :: [.lst [.tup [.str rsd, (.str [99, 111, 100, 101])], (.str [116, 111, 108, 100]), .tup [.str rsd, (.str [99, 111, 100, 101])], (.str [116, 111, 108, 100]), .tup [.str rsd, (.str [99, 111, 100, 101])], (.str [116, 111, 108, 100]), .tup [.str rsd, (.str [99, 111, 100, 101])], .tup [.str rsd, (.str [119, 111, 114, 100])], (.str [116, 111, 108, 100]), .tup [.str rsd, (.str [99, 111, 100, 101])], .tup [.str rsd, (.str (NR x4))], (.str [116, 111, 108, 100]), .tup [.str rsd, (.str [99, 111, 117, 110, 116, 115])], (.str [116, 111, 108, 100]), .tup [.str rsd, (.str [99, 111, 117, 110, 116, 115])], (.str [116, 111, 108, 100])]])) = ((SP a b c).map fun os => (.ok (.nx [some (.ref os.length), some (.ins 0 [.tup [.int 25, .int 7], .int 5]), some (x2), some (x3), some (x4), some (x5), some (x6), some (.fn 42), some ((.str (NR x4))), some (.lst [(.str [99, 111, 100, 101]), (.str [116, 111, 108, 100]), (.str [99, 111, 100, 101]), (.str [116, 111, 108, 100]), (.str [99, 111, 100, 101]), (.str [116, 111, 108, 100]), (.str [99, 111, 100, 101]), (.str [119, 111, 114, 100]), (.str [116, 111, 108, 100]), (.str [99, 111, 100, 101]), (.str (NR x4)), (.str [116, 111, 108, 100]), (.str [99, 111, 117, 110, 116, 115]), (.str [116, 111, 108, 100]), (.str [99, 111, 117, 110, 116, 115]), (.str [116, 111, 108, 100])]), some (.ref (os.length + 1)), some (x4), some ((.str (NR x4))), none]) (os ++ pb P :: [.lst [.tup [.str rsd, (.str [99, 111, 100, 101])], (.str [116, 111, 108, 100]), .tup [.str rsd, (.str [99, 111, 100, 101])], (.str [116, 111, 108, 100]), .tup [.str rsd, (.str [99, 111, 100, 101])], (.str [116, 111, 108, 100]), .tup [.str rsd, (.str [99, 111, 100, 101])], .tup [.str rsd, (.str [119, 111, 114, 100])], (.str [116, 111, 108, 100]), .tup [.str rsd, (.str [99, 111, 100, 101])], .tup [.str rsd, (.str (NR x4))], (.str [116, 111, 108, 100]), .tup [.str rsd, (.str [99, 111, 117, 110, 116, 115])], (.str [116, 111, 108, 100]), .tup [.str rsd, (.str [99, 111, 117, 110, 116, 115])], (.str [116, 111, 108, 100])]]) : R Oc)) := by kernel_rfl
theorem tTq23 (a b c P : T3) (x2 x3 x4 x5 x6 : Vl) : ∀ os ∈ SP a b c,  evS G4 LOW (.set 9 (.fz (.cat (.var 9) (.fz (.disp (.acons (.str [99, 111, 117, 110, 116, 115]) (.acons (.str [116, 111, 108, 100]) .anil))))))) [some (.ref os.length), some (.ins 0 [.tup [.int 25, .int 7], .int 5]), some (x2), some (x3), some (x4), some (x5), some (x6), some (.fn 42), some ((.str (NR x4))), some (.lst [(.str [99, 111, 100, 101]), (.str [116, 111, 108, 100]), (.str [99, 111, 100, 101]), (.str [116, 111, 108, 100]), (.str [99, 111, 100, 101]), (.str [116, 111, 108, 100]), (.str [99, 111, 100, 101]), (.str [119, 111, 114, 100]), (.str [116, 111, 108, 100]), (.str [99, 111, 100, 101]), (.str (NR x4)), (.str [116, 111, 108, 100]), (.str [99, 111, 117, 110, 116, 115]), (.str [116, 111, 108, 100])]), some (.ref (os.length + 1)), some (x4), some ((.str (NR x4))), none] (os ++ pb P :: [.lst [.tup [.str rsd, (.str [99, 111, 100, 101])], (.str [116, 111, 108, 100]), .tup [.str rsd, (.str [99, 111, 100, 101])], (.str [116, 111, 108, 100]), .tup [.str rsd, (.str [99, 111, 100, 101])], (.str [116, 111, 108, 100]), .tup [.str rsd, (.str [99, 111, 100, 101])], .tup [.str rsd, (.str [119, 111, 114, 100])], (.str [116, 111, 108, 100]), .tup [.str rsd, (.str [99, 111, 100, 101])], .tup [.str rsd, (.str (NR x4))], (.str [116, 111, 108, 100]), .tup [.str rsd, (.str [99, 111, 117, 110, 116, 115])], (.str [116, 111, 108, 100]), .tup [.str rsd, (.str [99, 111, 117, 110, 116, 115])], (.str [116, 111, 108, 100])]]) = (.ok (.nx [some (.ref os.length), some (.ins 0 [.tup [.int 25, .int 7], .int 5]), some (x2), some (x3), some (x4), some (x5), some (x6), some (.fn 42), some ((.str (NR x4))), some (.lst [(.str [99, 111, 100, 101]), (.str [116, 111, 108, 100]), (.str [99, 111, 100, 101]), (.str [116, 111, 108, 100]), (.str [99, 111, 100, 101]), (.str [116, 111, 108, 100]), (.str [99, 111, 100, 101]), (.str [119, 111, 114, 100]), (.str [116, 111, 108, 100]), (.str [99, 111, 100, 101]), (.str (NR x4)), (.str [116, 111, 108, 100]), (.str [99, 111, 117, 110, 116, 115]), (.str [116, 111, 108, 100]), (.str [99, 111, 117, 110, 116, 115]), (.str [116, 111, 108, 100])]), some (.ref (os.length + 1)), some (x4), some ((.str (NR x4))), none]) (os ++ pb P :: [.lst [.tup [.str rsd, (.str [99, 111, 100, 101])], (.str [116, 111, 108, 100]), .tup [.str rsd, (.str [99, 111, 100, 101])], (.str [116, 111, 108, 100]), .tup [.str rsd, (.str [99, 111, 100, 101])], (.str [116, 111, 108, 100]), .tup [.str rsd, (.str [99, 111, 100, 101])], .tup [.str rsd, (.str [119, 111, 114, 100])], (.str [116, 111, 108, 100]), .tup [.str rsd, (.str [99, 111, 100, 101])], .tup [.str rsd, (.str (NR x4))], (.str [116, 111, 108, 100]), .tup [.str rsd, (.str [99, 111, 117, 110, 116, 115])], (.str [116, 111, 108, 100]), .tup [.str rsd, (.str [99, 111, 117, 110, 116, 115])], (.str [116, 111, 108, 100])]]) : R Oc) := fun os ho => all1 (kTq23 a b c P x2 x3 x4 x5 x6) os ho
theorem kT12 (a b c P : T3) (x2 x3 x5 : Vl) : ((SP a b c).map fun os => LT6.map fun x6 => LT3.map fun x4 => evS G4 LOW (.ex (.mth .append (.var 10) (.acons (.lamc 46 (.call 41 (.acons (.var 6) (.acons (.var 4) .anil)))) .anil))) [some (.ref os.length), some (.ins 0 [.tup [.int 25, .int 7], .int 5]), some (x2), some (x3), some (x4), some (x5), some (x6), some (.fn 42), some ((.str (NR x4))), some (.lst [(.str [99, 111, 100, 101]), (.str [116, 111, 108, 100]), (.str [99, 111, 100, 101]), (.str [116, 111, 108, 100]), (.str [99, 111, 100, 101]), (.str [116, 111, 108, 100]), (.str [99, 111, 100, 101]), (.str [119, 111, 114, 100]), (.str [116, 111, 108, 100]), (.str [99, 111, 100, 101]), (.str (NR x4)), (.str [116, 111, 108, 100]), (.str [99, 111, 117, 110, 116, 115]), (.str [116, 111, 108, 100]), (.str [99, 111, 117, 110, 116, 115]), (.str [116, 111, 108, 100])]), some (.ref (os.length + 1)), some (x4), some ((.str (NR x4))), none] (os ++ pb P :: [.lst [.tup [.str rsd, (.str [99, 111, 100, 101])], (.str [116, 111, 108, 100]), .tup [.str rsd, (.str [99, 111, 100, 101])], (.str [116, 111, 108, 100]), .tup [.str rsd, (.str [99, 111, 100, 101])], (.str [116, 111, 108, 100]), .tup [.str rsd, (.str [99, 111, 100, 101])], .tup [.str rsd, (.str [119, 111, 114, 100])], (.str [116, 111, 108, 100]), .tup [.str rsd, (.str [99, 111, 100, 101])], .tup [.str rsd, (.str (NR x4))], (.str [116, 111, 108, 100]), .tup [.str rsd, (.str [99, 111, 117, 110, 116, 115])], (.str [116, 111, 108, 100]), .tup [.str rsd, (.str [99, 111, 117, 110, 116, 115])], (.str [116, 111, 108, 100])]])) = ((SP a b c).map fun os => LT6.map fun x6 => LT3.map fun x4 => (.ok (.nx [some (.ref os.length), some (.ins 0 [.tup [.int 25, .int 7], .int 5]), some (x2), some (x3), some (x4), some (x5), some (x6), some (.fn 42), some ((.str (NR x4))), some (.lst [(.str [99, 111, 100, 101]), (.str [116, 111, 108, 100]), (.str [99, 111, 100, 101]), (.str [116, 111, 108, 100]), (.str [99, 111, 100, 101]), (.str [116, 111, 108, 100]), (.str [99, 111, 100, 101]), (.str [119, 111, 114, 100]), (.str [116, 111, 108, 100]), (.str [99, 111, 100, 101]), (.str (NR x4)), (.str [116, 111, 108, 100]), (.str [99, 111, 117, 110, 116, 115]), (.str [116, 111, 108, 100]), (.str [99, 111, 117, 110, 116, 115]), (.str [116, 111, 108, 100])]), some (.ref (os.length + 1)), some (x4), some ((.str (NR x4))), none]) (os ++ pb P :: [.lst [.tup [.str rsd, (.str [99, 111, 100, 101])], (.str [116, 111, 108, 100]), .tup [.str rsd, (.str [99, 111, 100, 101])], (.str [116, 111, 108, 100]), .tup [.str rsd, (.str [99, 111, 100, 101])], (.str [116, 111, 108, 100]), .tup [.str rsd, (.str [99, 111, 100, 101])], .tup [.str rsd, (.str [119, 111, 114, 100])], (.str [116, 111, 108, 100]), .tup [.str rsd, (.str [99, 111, 100, 101])], .tup [.str rsd, (.str (NR x4))], (.str [116, 111, 108, 100]), .tup [.str rsd, (.str [99, 111, 117, 110, 116, 115])], (.str [116, 111, 108, 100]), .tup [.str rsd, (.str [99, 111, 117, 110, 116, 115])], (.str [116, 111, 108, 100]), .tup [.str rsd, (.str [99, 111, 117, 110, 116, 115])]]]) : R Oc)) := by kernel_rfl
theorem tT12 (a b c P : T3) (x2 x3 x5 : Vl) : ∀ os ∈ SP a b c, ∀ x6 ∈ LT6, ∀ x4 ∈ LT3, evS G4 LOW (.ex (.mth .append (.var 10) (.acons (.lamc 46 (.call 41 (.acons (.var 6) (.acons (.var 4) .anil)))) .anil))) [some (.ref os.length), some (.ins 0 [.tup [.int 25, .int 7], .int 5]), some (x2), some (x3), some (x4), some (x5), some (x6), some (.fn 42), some ((.str (NR x4))), some (.lst [(.str [99, 111, 100, 101]), (.str [116, 111, 108, 100]), (.str [99, 111, 100, 101]), (.str [116, 111, 108, 100]), (.str [99, 111, 100, 101]), (.str [116, 111, 108, 100]), (.str [99, 111, 100, 101]), (.str [119, 111, 114, 100]), (.str [116, 111, 108, 100]), (.str [99, 111, 100, 101]), (.str (NR x4)), (.str [116, 111, 108, 100]), (.str [99, 111, 117, 110, 116, 115]), (.str [116, 111, 108, 100]), (.str [99, 111, 117, 110, 116, 115]), (.str [116, 111, 108, 100])]), some (.ref (os.length + 1)), some (x4), some ((.str (NR x4))), none] (os ++ pb P :: [.lst [.tup [.str rsd, (.str [99, 111, 100, 101])], (.str [116, 111, 108, 100]), .tup [.str rsd, (.str [99, 111, 100, 101])], (.str [116, 111, 108, 100]), .tup [.str rsd, (.str [99, 111, 100, 101])], (.str [116, 111, 108, 100]), .tup [.str rsd, (.str [99, 111, 100, 101])], .tup [.str rsd, (.str [119, 111, 114, 100])], (.str [116, 111, 108, 100]), .tup [.str rsd, (.str [99, 111, 100, 101])], .tup [.str rsd, (.str (NR x4))], (.str [116, 111, 108, 100]), .tup [.str rsd, (.str [99, 111, 117, 110, 116, 115])], (.str [116, 111, 108, 100]), .tup [.str rsd, (.str [99, 111, 117, 110, 116, 115])], (.str [116, 111, 108, 100])]]) = (.ok (.nx [some (.ref os.length), some (.ins 0 [.tup [.int 25, .int 7], .int 5]), some (x2), some (x3), some (x4), some (x5), some (x6), some (.fn 42), some ((.str (NR x4))), some (.lst [(.str [99, 111, 100, 101]), (.str [116, 111, 108, 100]), (.str [99, 111, 100, 101]), (.str [116, 111, 108, 100]), (.str [99, 111, 100, 101]), (.str [116, 111, 108, 100]), (.str [99, 111, 100, 101]), (.str [119, 111, 114, 100]), (.str [116, 111, 108, 100]), (.str [99, 111, 100, 101]), (.str (NR x4)), (.str [116, 111, 108, 100]), (.str [99, 111, 117, 110, 116, 115]), (.str [116, 111, 108, 100]), (.str [99, 111, 117, 110, 116, 115]), (.str [116, 111, 108, 100])]), some (.ref (os.length + 1)), some (x4), some ((.str (NR x4))), none]) (os ++ pb P :: [.lst [.tup [.str rsd, (.str [99, 111, 100, 101])], (.str [116, 111, 108, 100]), .tup [.str rsd, (.str [99, 111, 100, 101])], (.str [116, 111, 108, 100]), .tup [.str rsd, (.str [99, 111, 100, 101])], (.str [116, 111, 108, 100]), .tup [.str rsd, (.str [99, 111, 100, 101])], .tup [.str rsd, (.str [119, 111, 114, 100])], (.str [116, 111, 108, 100]), .tup [.str rsd, (.str [99, 111, 100, 101])], .tup [.str rsd, (.str (NR x4))], (.str [116, 111, 108, 100]), .tup [.str rsd, (.str [99, 111, 117, 110, 116, 115])], (.str [116, 111, 108, 100]), .tup [.str rsd, (.str [99, 111, 117, 110, 116, 115])], (.str [116, 111, 108, 100]), .tup [.str rsd, (.str [99, 111, 117, 110, 116, 115])]]]) : R Oc) := fun os ho x6 hx6 x4 hx4 => all1 (all1 (all1 (kT12 a b c P x2 x3 x5) os ho) x6 hx6) x4 hx4
theorem kT13 (a b c P : T3) (x2 x3 x5 x6 : Vl) : ((SP a b c).map fun os => LT3.map fun x4 => evS G4 LOW (.ex (.mth .append (.var 10) (.acons (.lamc 46 (.call 41 (.acons (.tup (.acons (.int 1) (.acons (.int 0) (.acons (.int 3) (.acons (.int 0) (.acons (.int 0) (.acons (.int 0) .anil))))))) (.acons (.var 4) .anil)))) .anil))) [some (.ref os.length), some (.ins 0 [.tup [.int 25, .int 7], .int 5]), some (x2), some (x3), some (x4), some (x5), some (x6), some (.fn 42), some ((.str (NR x4))), some (.lst [(.str [99, 111, 100, 101]), (.str [116, 111, 108, 100]), (.str [99, 111, 100, 101]), (.str [116, 111, 108, 100]), (.str [99, 111, 100, 101]), (.str [116, 111, 108, 100]), (.str [99, 111, 100, 101]), (.str [119, 111, 114, 100]), (.str [116, 111, 108, 100]), (.str [99, 111, 100, 101]), (.str (NR x4)), (.str [116, 111, 108, 100]), (.str [99, 111, 117, 110, 116, 115]), (.str [116, 111, 108, 100]), (.str [99, 111, 117, 110, 116, 115]), (.str [116, 111, 108, 100])]), some (.ref (os.length + 1)), some (x4), some ((.str (NR x4))), none] (os ++ pb P :: [.lst [.tup [.str rsd, (.str [99, 111, 100, 101])], (.str [116, 111, 108, 100]), .tup [.str rsd, (.str [99, 111, 100, 101])], (.str [116, 111, 108, 100]), .tup [.str rsd, (.str [99, 111, 100, 101])], (.str [116, 111, 108, 100]), .tup [.str rsd, (.str [99, 111, 100, 101])], .tup [.str rsd, (.str [119, 111, 114, 100])], (.str [116, 111, 108, 100]), .tup [.str rsd, (.str [99, 111, 100, 101])], .tup [.str rsd, (.str (NR x4))], (.str [116, 111, 108, 100]), .tup [.str rsd, (.str [99, 111, 117, 110, 116, 115])], (.str [116, 111, 108, 100]), .tup [.str rsd, (.str [99, 111, 117, 110, 116, 115])], (.str [116, 111, 108, 100]), .tup [.str rsd, (.str [99, 111, 117, 110, 116, 115])]]])) = ((SP a b c).map fun os => LT3.map fun x4 => (.ok (.nx [some (.ref os.length), some (.ins 0 [.tup [.int 25, .int 7], .int 5]), some (x2), some (x3), some (x4), some (x5), some (x6), some (.fn 42), some ((.str (NR x4))), some (.lst [(.str [99, 111, 100, 101]), (.str [116, 111, 108, 100]), (.str [99, 111, 100, 101]), (.str [116, 111, 108, 100]), (.str [99, 111, 100, 101]), (.str [116, 111, 108, 100]), (.str [99, 111, 100, 101]), (.str [119, 111, 114, 100]), (.str [116, 111, 108, 100]), (.str [99, 111, 100, 101]), (.str (NR x4)), (.str [116, 111, 108, 100]), (.str [99, 111, 117, 110, 116, 115]), (.str [116, 111, 108, 100]), (.str [99, 111, 117, 110, 116, 115]), (.str [116, 111, 108, 100])]), some (.ref (os.length + 1)), some (x4), some ((.str (NR x4))), none]) (os ++ pb P :: [.lst [.tup [.str rsd, (.str [99, 111, 100, 101])], (.str [116, 111, 108, 100]), .tup [.str rsd, (.str [99, 111, 100, 101])], (.str [116, 111, 108, 100]), .tup [.str rsd, (.str [99, 111, 100, 101])], (.str [116, 111, 108, 100]), .tup [.str rsd, (.str [99, 111, 100, 101])], .tup [.str rsd, (.str [119, 111, 114, 100])], (.str [116, 111, 108, 100]), .tup [.str rsd, (.str [99, 111, 100, 101])], .tup [.str rsd, (.str (NR x4))], (.str [116, 111, 108, 100]), .tup [.str rsd, (.str [99, 111, 117, 110, 116, 115])], (.str [116, 111, 108, 100]), .tup [.str rsd, (.str [99, 111, 117, 110, 116, 115])], (.str [116, 111, 108, 100]), .tup [.str rsd, (.str [99, 111, 117, 110, 116, 115])], .tup [.str rsd, (.str (NR x4))]]]) : R Oc)) := by kernel_rfl
theorem tT13 (a b c P : T3) (x2 x3 x5 x6 : Vl) : ∀ os ∈ SP a b c, ∀ x4 ∈ LT3, evS G4 LOW (.ex (.mth .append (.var 10) (.acons (.lamc 46 (.call 41 (.acons (.tup (.acons (.int 1) (.acons (.int 0) (.acons (.int 3) (.acons (.int 0) (.acons (.int 0) (.acons (.int 0) .anil))))))) (.acons (.var 4) .anil)))) .anil))) [some (.ref os.length), some (.ins 0 [.tup [.int 25, .int 7], .int 5]), some (x2), some (x3), some (x4), some (x5), some (x6), some (.fn 42), some ((.str (NR x4))), some (.lst [(.str [99, 111, 100, 101]), (.str [116, 111, 108, 100]), (.str [99, 111, 100, 101]), (.str [116, 111, 108, 100]), (.str [99, 111, 100, 101]), (.str [116, 111, 108, 100]), (.str [99, 111, 100, 101]), (.str [119, 111, 114, 100]), (.str [116, 111, 108, 100]), (.str [99, 111, 100, 101]), (.str (NR x4)), (.str [116, 111, 108, 100]), (.str [99, 111, 117, 110, 116, 115]), (.str [116, 111, 108, 100]), (.str [99, 111, 117, 110, 116, 115]), (.str [116, 111, 108, 100])]), some (.ref (os.length + 1)), some (x4), some ((.str (NR x4))), none] (os ++ pb P :: [.lst [.tup [.str rsd, (.str [99, 111, 100, 101])], (.str [116, 111, 108, 100]), .tup [.str rsd, (.str [99, 111, 100, 101])], (.str [116, 111, 108, 100]), .tup [.str rsd, (.str [99, 111, 100, 101])], (.str [116, 111, 108, 100]), .tup [.str rsd, (.str [99, 111, 100, 101])], .tup [.str rsd, (.str [119, 111, 114, 100])], (.str [116, 111, 108, 100]), .tup [.str rsd, (.str [99, 111, 100, 101])], .tup [.str rsd, (.str (NR x4))], (.str [116, 111, 108, 100]), .tup [.str rsd, (.str [99, 111, 117, 110, 116, 115])], (.str [116, 111, 108, 100]), .tup [.str rsd, (.str [99, 111, 117, 110, 116, 115])], (.str [116, 111, 108, 100]), .tup [.str rsd, (.str [99, 111, 117, 110, 116, 115])]]]) = (.ok (.nx [some (.ref os.length), some (.ins 0 [.tup [.int 25, .int 7], .int 5]), some (x2), some (x3), some (x4), some (x5), some (x6), some (.fn 42), some ((.str (NR x4))), some (.lst [(.str [99, 111, 100, 101]), (.str [116, 111, 108, 100]), (.str [99, 111, 100, 101]), (.str [116, 111, 108, 100]), (.str [99, 111, 100, 101]), (.str [116, 111, 108, 100]), (.str [99, 111, 100, 101]), (.str [119, 111, 114, 100]), (.str [116, 111, 108, 100]), (.str [99, 111, 100, 101]), (.str (NR x4)), (.str [116, 111, 108, 100]), (.str [99, 111, 117, 110, 116, 115]), (.str [116, 111, 108, 100]), (.str [99, 111, 117, 110, 116, 115]), (.str [116, 111, 108, 100])]), some (.ref (os.length + 1)), some (x4), some ((.str (NR x4))), none]) (os ++ pb P :: [.lst [.tup [.str rsd, (.str [99, 111, 100, 101])], (.str [116, 111, 108, 100]), .tup [.str rsd, (.str [99, 111, 100, 101])], (.str [116, 111, 108, 100]), .tup [.str rsd, (.str [99, 111, 100, 101])], (.str [116, 111, 108, 100]), .tup [.str rsd, (.str [99, 111, 100, 101])], .tup [.str rsd, (.str [119, 111, 114, 100])], (.str [116, 111, 108, 100]), .tup [.str rsd, (.str [99, 111, 100, 101])], .tup [.str rsd, (.str (NR x4))], (.str [116, 111, 108, 100]), .tup [.str rsd, (.str [99, 111, 117, 110, 116, 115])], (.str [116, 111, 108, 100]), .tup [.str rsd, (.str [99, 111, 117, 110, 116, 115])], (.str [116, 111, 108, 100]), .tup [.str rsd, (.str [99, 111, 117, 110, 116, 115])], .tup [.str rsd, (.str (NR x4))]]]) : R Oc) := fun os ho x4 hx4 => all1 (all1 (kT13 a b c P x2 x3 x5 x6) os ho) x4 hx4
theorem kT14 (a b c P : T3) (x2 x3 x6 : Vl) : ((SP a b c).map fun os => LT4.map fun x5 => LT3.map fun x4 => evS G4 LOW (.ex (.mth .append (.var 10) (.acons (.lamc 46 (.call 34 (.acons (.var 5) (.acons (.var 4) (.acons (.var 4) .anil))))) .anil))) [some (.ref os.length), some (.ins 0 [.tup [.int 25, .int 7], .int 5]), some (x2), some (x3), some (x4), some (x5), some (x6), some (.fn 42), some ((.str (NR x4))), some (.lst [(.str [99, 111, 100, 101]), (.str [116, 111, 108, 100]), (.str [99, 111, 100, 101]), (.str [116, 111, 108, 100]), (.str [99, 111, 100, 101]), (.str [116, 111, 108, 100]), (.str [99, 111, 100, 101]), (.str [119, 111, 114, 100]), (.str [116, 111, 108, 100]), (.str [99, 111, 100, 101]), (.str (NR x4)), (.str [116, 111, 108, 100]), (.str [99, 111, 117, 110, 116, 115]), (.str [116, 111, 108, 100]), (.str [99, 111, 117, 110, 116, 115]), (.str [116, 111, 108, 100])]), some (.ref (os.length + 1)), some (x4), some ((.str (NR x4))), none] (os ++ pb P :: [.lst [.tup [.str rsd, (.str [99, 111, 100, 101])], (.str [116, 111, 108, 100]), .tup [.str rsd, (.str [99, 111, 100, 101])], (.str [116, 111, 108, 100]), .tup [.str rsd, (.str [99, 111, 100, 101])], (.str [116, 111, 108, 100]), .tup [.str rsd, (.str [99, 111, 100, 101])], .tup [.str rsd, (.str [119, 111, 114, 100])], (.str [116, 111, 108, 100]), .tup [.str rsd, (.str [99, 111, 100, 101])], .tup [.str rsd, (.str (NR x4))], (.str [116, 111, 108, 100]), .tup [.str rsd, (.str [99, 111, 117, 110, 116, 115])], (.str [116, 111, 108, 100]), .tup [.str rsd, (.str [99, 111, 117, 110, 116, 115])], (.str [116, 111, 108, 100]), .tup [.str rsd, (.str [99, 111, 117, 110, 116, 115])], .tup [.str rsd, (.str (NR x4))]]])) = ((SP a b c).map fun os => LT4.map fun x5 => LT3.map fun x4 => (.ok (.nx [some (.ref os.length), some (.ins 0 [.tup [.int 25, .int 7], .int 5]), some (x2), some (x3), some (x4), some (x5), some (x6), some (.fn 42), some ((.str (NR x4))), some (.lst [(.str [99, 111, 100, 101]), (.str [116, 111, 108, 100]), (.str [99, 111, 100, 101]), (.str [116, 111, 108, 100]), (.str [99, 111, 100, 101]), (.str [116, 111, 108, 100]), (.str [99, 111, 100, 101]), (.str [119, 111, 114, 100]), (.str [116, 111, 108, 100]), (.str [99, 111, 100, 101]), (.str (NR x4)), (.str [116, 111, 108, 100]), (.str [99, 111, 117, 110, 116, 115]), (.str [116, 111, 108, 100]), (.str [99, 111, 117, 110, 116, 115]), (.str [116, 111, 108, 100])]), some (.ref (os.length + 1)), some (x4), some ((.str (NR x4))), none]) (os ++ pb P :: [.lst [.tup [.str rsd, (.str [99, 111, 100, 101])], (.str [116, 111, 108, 100]), .tup [.str rsd, (.str [99, 111, 100, 101])], (.str [116, 111, 108, 100]), .tup [.str rsd, (.str [99, 111, 100, 101])], (.str [116, 111, 108, 100]), .tup [.str rsd, (.str [99, 111, 100, 101])], .tup [.str rsd, (.str [119, 111, 114, 100])], (.str [116, 111, 108, 100]), .tup [.str rsd, (.str [99, 111, 100, 101])], .tup [.str rsd, (.str (NR x4))], (.str [116, 111, 108, 100]), .tup [.str rsd, (.str [99, 111, 117, 110, 116, 115])], (.str [116, 111, 108, 100]), .tup [.str rsd, (.str [99, 111, 117, 110, 116, 115])], (.str [116, 111, 108, 100]), .tup [.str rsd, (.str [99, 111, 117, 110, 116, 115])], .tup [.str rsd, (.str (NR x4))], .tup [.str rsd, (.str (NR x5))]]]) : R Oc)) := by kernel_rfl
theorem tT14 (a b c P : T3) (x2 x3 x6 : Vl) : ∀ os ∈ SP a b c, ∀ x5 ∈ LT4, ∀ x4 ∈ LT3, evS G4 LOW (.ex (.mth .append (.var 10) (.acons (.lamc 46 (.call 34 (.acons (.var 5) (.acons (.var 4) (.acons (.var 4) .anil))))) .anil))) [some (.ref os.length), some (.ins 0 [.tup [.int 25, .int 7], .int 5]), some (x2), some (x3), some (x4), some (x5), some (x6), some (.fn 42), some ((.str (NR x4))), some (.lst [(.str [99, 111, 100, 101]), (.str [116, 111, 108, 100]), (.str [99, 111, 100, 101]), (.str [116, 111, 108, 100]), (.str [99, 111, 100, 101]), (.str [116, 111, 108, 100]), (.str [99, 111, 100, 101]), (.str [119, 111, 114, 100]), (.str [116, 111, 108, 100]), (.str [99, 111, 100, 101]), (.str (NR x4)), (.str [116, 111, 108, 100]), (.str [99, 111, 117, 110, 116, 115]), (.str [116, 111, 108, 100]), (.str [99, 111, 117, 110, 116, 115]), (.str [116, 111, 108, 100])]), some (.ref (os.length + 1)), some (x4), some ((.str (NR x4))), none] (os ++ pb P :: [.lst [.tup [.str rsd, (.str [99, 111, 100, 101])], (.str [116, 111, 108, 100]), .tup [.str rsd, (.str [99, 111, 100, 101])], (.str [116, 111, 108, 100]), .tup [.str rsd, (.str [99, 111, 100, 101])], (.str [116, 111, 108, 100]), .tup [.str rsd, (.str [99, 111, 100, 101])], .tup [.str rsd, (.str [119, 111, 114, 100])], (.str [116, 111, 108, 100]), .tup [.str rsd, (.str [99, 111, 100, 101])], .tup [.str rsd, (.str (NR x4))], (.str [116, 111, 108, 100]), .tup [.str rsd, (.str [99, 111, 117, 110, 116, 115])], (.str [116, 111, 108, 100]), .tup [.str rsd, (.str [99, 111, 117, 110, 116, 115])], (.str [116, 111, 108, 100]), .tup [.str rsd, (.str [99, 111, 117, 110, 116, 115])], .tup [.str rsd, (.str (NR x4))]]]) = (.ok (.nx [some (.ref os.length), some (.ins 0 [.tup [.int 25, .int 7], .int 5]), some (x2), some (x3), some (x4), some (x5), some (x6), some (.fn 42), some ((.str (NR x4))), some (.lst [(.str [99, 111, 100, 101]), (.str [116, 111, 108, 100]), (.str [99, 111, 100, 101]), (.str [116, 111, 108, 100]), (.str [99, 111, 100, 101]), (.str [116, 111, 108, 100]), (.str [99, 111, 100, 101]), (.str [119, 111, 114, 100]), (.str [116, 111, 108, 100]), (.str [99, 111, 100, 101]), (.str (NR x4)), (.str [116, 111, 108, 100]), (.str [99, 111, 117, 110, 116, 115]), (.str [116, 111, 108, 100]), (.str [99, 111, 117, 110, 116, 115]), (.str [116, 111, 108, 100])]), some (.ref (os.length + 1)), some (x4), some ((.str (NR x4))), none]) (os ++ pb P :: [.lst [.tup [.str rsd, (.str [99, 111, 100, 101])], (.str [116, 111, 108, 100]), .tup [.str rsd, (.str [99, 111, 100, 101])], (.str [116, 111, 108, 100]), .tup [.str rsd, (.str [99, 111, 100, 101])], (.str [116, 111, 108, 100]), .tup [.str rsd, (.str [99, 111, 100, 101])], .tup [.str rsd, (.str [119, 111, 114, 100])], (.str [116, 111, 108, 100]), .tup [.str rsd, (.str [99, 111, 100, 101])], .tup [.str rsd, (.str (NR x4))], (.str [116, 111, 108, 100]), .tup [.str rsd, (.str [99, 111, 117, 110, 116, 115])], (.str [116, 111, 108, 100]), .tup [.str rsd, (.str [99, 111, 117, 110, 116, 115])], (.str [116, 111, 108, 100]), .tup [.str rsd, (.str [99, 111, 117, 110, 116, 115])], .tup [.str rsd, (.str (NR x4))], .tup [.str rsd, (.str (NR x5))]]]) : R Oc) := fun os ho x5 hx5 x4 hx4 => all1 (all1 (all1 (kT14 a b c P x2 x3 x6) os ho) x5 hx5) x4 hx4
theorem kT15 (a b c P : T3) (x2 x3 x5 x6 : Vl) : ((SP a b c).map fun os => LT3.map fun x4 => evS G4 LOW (.ex (.mth .append (.var 10) (.acons (.lamc 46 (.call 34 (.acons (.int 5) (.acons (.var 4) (.acons .non .anil))))) .anil))) [some (.ref os.length), some (.ins 0 [.tup [.int 25, .int 7], .int 5]), some (x2), some (x3), some (x4), some (x5), some (x6), some (.fn 42), some ((.str (NR x4))), some (.lst [(.str [99, 111, 100, 101]), (.str [116, 111, 108, 100]), (.str [99, 111, 100, 101]), (.str [116, 111, 108, 100]), (.str [99, 111, 100, 101]), (.str [116, 111, 108, 100]), (.str [99, 111, 100, 101]), (.str [119, 111, 114, 100]), (.str [116, 111, 108, 100]), (.str [99, 111, 100, 101]), (.str (NR x4)), (.str [116, 111, 108, 100]), (.str [99, 111, 117, 110, 116, 115]), (.str [116, 111, 108, 100]), (.str [99, 111, 117, 110, 116, 115]), (.str [116, 111, 108, 100])]), some (.ref (os.length + 1)), some (x4), some ((.str (NR x4))), none] (os ++ pb P :: [.lst [.tup [.str rsd, (.str [99, 111, 100, 101])], (.str [116, 111, 108, 100]), .tup [.str rsd, (.str [99, 111, 100, 101])], (.str [116, 111, 108, 100]), .tup [.str rsd, (.str [99, 111, 100, 101])], (.str [116, 111, 108, 100]), .tup [.str rsd, (.str [99, 111, 100, 101])], .tup [.str rsd, (.str [119, 111, 114, 100])], (.str [116, 111, 108, 100]), .tup [.str rsd, (.str [99, 111, 100, 101])], .tup [.str rsd, (.str (NR x4))], (.str [116, 111, 108, 100]), .tup [.str rsd, (.str [99, 111, 117, 110, 116, 115])], (.str [116, 111, 108, 100]), .tup [.str rsd, (.str [99, 111, 117, 110, 116, 115])], (.str [116, 111, 108, 100]), .tup [.str rsd, (.str [99, 111, 117, 110, 116, 115])], .tup [.str rsd, (.str (NR x4))], .tup [.str rsd, (.str (NR x5))]]])) = ((SP a b c).map fun os => LT3.map fun x4 => (.ok (.nx [some (.ref os.length), some (.ins 0 [.tup [.int 25, .int 7], .int 5]), some (x2), some (x3), some (x4), some (x5), some (x6), some (.fn 42), some ((.str (NR x4))), some (.lst [(.str [99, 111, 100, 101]), (.str [116, 111, 108, 100]), (.str [99, 111, 100, 101]), (.str [116, 111, 108, 100]), (.str [99, 111, 100, 101]), (.str [116, 111, 108, 100]), (.str [99, 111, 100, 101]), (.str [119, 111, 114, 100]), (.str [116, 111, 108, 100]), (.str [99, 111, 100, 101]), (.str (NR x4)), (.str [116, 111, 108, 100]), (.str [99, 111, 117, 110, 116, 115]), (.str [116, 111, 108, 100]), (.str [99, 111, 117, 110, 116, 115]), (.str [116, 111, 108, 100])]), some (.ref (os.length + 1)), some (x4), some ((.str (NR x4))), none]) (os ++ pb P :: [.lst [.tup [.str rsd, (.str [99, 111, 100, 101])], (.str [116, 111, 108, 100]), .tup [.str rsd, (.str [99, 111, 100, 101])], (.str [116, 111, 108, 100]), .tup [.str rsd, (.str [99, 111, 100, 101])], (.str [116, 111, 108, 100]), .tup [.str rsd, (.str [99, 111, 100, 101])], .tup [.str rsd, (.str [119, 111, 114, 100])], (.str [116, 111, 108, 100]), .tup [.str rsd, (.str [99, 111, 100, 101])], .tup [.str rsd, (.str (NR x4))], (.str [116, 111, 108, 100]), .tup [.str rsd, (.str [99, 111, 117, 110, 116, 115])], (.str [116, 111, 108, 100]), .tup [.str rsd, (.str [99, 111, 117, 110, 116, 115])], (.str [116, 111, 108, 100]), .tup [.str rsd, (.str [99, 111, 117, 110, 116, 115])], .tup [.str rsd, (.str (NR x4))], .tup [.str rsd, (.str (NR x5))], .tup [.str rsd, (.str (NR x4))]]]) : R Oc)) := by kernel_rfl
theorem tT15 (a b c P : T3) (x2 x3 x5 x6 : Vl) : ∀ os ∈ SP a b c, ∀ x4 ∈ LT3, evS G4 LOW (.ex (.mth .append (.var 10) (.acons (.lamc 46 (.call 34 (.acons (.int 5) (.acons (.var 4) (.acons .non .anil))))) .anil))) [some (.ref os.length), some (.ins 0 [.tup [.int 25, .int 7], .int 5]), some (x2), some (x3), some (x4), some (x5), some (x6), some (.fn 42), some ((.str (NR x4))), some (.lst [(.str [99, 111, 100, 101]), (.str [116, 111, 108, 100]), (.str [99, 111, 100, 101]), (.str [116, 111, 108, 100]), (.str [99, 111, 100, 101]), (.str [116, 111, 108, 100]), (.str [99, 111, 100, 101]), (.str [119, 111, 114, 100]), (.str [116, 111, 108, 100]), (.str [99, 111, 100, 101]), (.str (NR x4)), (.str [116, 111, 108, 100]), (.str [99, 111, 117, 110, 116, 115]), (.str [116, 111, 108, 100]), (.str [99, 111, 117, 110, 116, 115]), (.str [116, 111, 108, 100])]), some (.ref (os.length + 1)), some (x4), some ((.str (NR x4))), none] (os ++ pb P :: [.lst [.tup [.str rsd, (.str [99, 111, 100, 101])], (.str [116, 111, 108, 100]), .tup [.str rsd, (.str [99, 111, 100, 101])], (.str [116, 111, 108, 100]), .tup [.str rsd, (.str [99, 111, 100, 101])], (.str [116, 111, 108, 100]), .tup [.str rsd, (.str [99, 111, 100, 101])], .tup [.str rsd, (.str [119, 111, 114, 100])], (.str [116, 111, 108, 100]), .tup [.str rsd, (.str [99, 111, 100, 101])], .tup [.str rsd, (.str (NR x4))], (.str [116, 111, 108, 100]), .tup [.str rsd, (.str [99, 111, 117, 110, 116, 115])], (.str [116, 111, 108, 100]), .tup [.str rsd, (.str [99, 111, 117, 110, 116, 115])], (.str [116, 111, 108, 100]), .tup [.str rsd, (.str [99, 111, 117, 110, 116, 115])], .tup [.str rsd, (.str (NR x4))], .tup [.str rsd, (.str (NR x5))]]]) = (.ok (.nx [some (.ref os.length), some (.ins 0 [.tup [.int 25, .int 7], .int 5]), some (x2), some (x3), some (x4), some (x5), some (x6), some (.fn 42), some ((.str (NR x4))), some (.lst [(.str [99, 111, 100, 101]), (.str [116, 111, 108, 100]), (.str [99, 111, 100, 101]), (.str [116, 111, 108, 100]), (.str [99, 111, 100, 101]), (.str [116, 111, 108, 100]), (.str [99, 111, 100, 101]), (.str [119, 111, 114, 100]), (.str [116, 111, 108, 100]), (.str [99, 111, 100, 101]), (.str (NR x4)), (.str [116, 111, 108, 100]), (.str [99, 111, 117, 110, 116, 115]), (.str [116, 111, 108, 100]), (.str [99, 111, 117, 110, 116, 115]), (.str [116, 111, 108, 100])]), some (.ref (os.length + 1)), some (x4), some ((.str (NR x4))), none]) (os ++ pb P :: [.lst [.tup [.str rsd, (.str [99, 111, 100, 101])], (.str [116, 111, 108, 100]), .tup [.str rsd, (.str [99, 111, 100, 101])], (.str [116, 111, 108, 100]), .tup [.str rsd, (.str [99, 111, 100, 101])], (.str [116, 111, 108, 100]), .tup [.str rsd, (.str [99, 111, 100, 101])], .tup [.str rsd, (.str [119, 111, 114, 100])], (.str [116, 111, 108, 100]), .tup [.str rsd, (.str [99, 111, 100, 101])], .tup [.str rsd, (.str (NR x4))], (.str [116, 111, 108, 100]), .tup [.str rsd, (.str [99, 111, 117, 110, 116, 115])], (.str [116, 111, 108, 100]), .tup [.str rsd, (.str [99, 111, 117, 110, 116, 115])], (.str [116, 111, 108, 100]), .tup [.str rsd, (.str [99, 111, 117, 110, 116, 115])], .tup [.str rsd, (.str (NR x4))], .tup [.str rsd, (.str (NR x5))], .tup [.str rsd, (.str (NR x4))]]]) : R Oc) := fun os ho x4 hx4 => all1 (all1 (kT15 a b c P x2 x3 x5 x6) os ho) x4 hx4
theorem kT16 (a b c P : T3) (x2 x3 x5 x6 : Vl) : ((SP a b c).map fun os => LT3.map fun x4 => evS G4 LOW (.ex (.mth .append (.var 10) (.acons (.lamc 46 (.call 34 (.acons (.int 5) (.acons (.int 5) (.acons (.var 4) .anil))))) .anil))) [some (.ref os.length), some (.ins 0 [.tup [.int 25, .int 7], .int 5]), some (x2), some (x3), some (x4), some (x5), some (x6), some (.fn 42), some ((.str (NR x4))), some (.lst [(.str [99, 111, 100, 101]), (.str [116, 111, 108, 100]), (.str [99, 111, 100, 101]), (.str [116, 111, 108, 100]), (.str [99, 111, 100, 101]), (.str [116, 111, 108, 100]), (.str [99, 111, 100, 101]), (.str [119, 111, 114, 100]), (.str [116, 111, 108, 100]), (.str [99, 111, 100, 101]), (.str (NR x4)), (.str [116, 111, 108, 100]), (.str [99, 111, 117, 110, 116, 115]), (.str [116, 111, 108, 100]), (.str [99, 111, 117, 110, 116, 115]), (.str [116, 111, 108, 100])]), some (.ref (os.length + 1)), some (x4), some ((.str (NR x4))), none] (os ++ pb P :: [.lst [.tup [.str rsd, (.str [99, 111, 100, 101])], (.str [116, 111, 108, 100]), .tup [.str rsd, (.str [99, 111, 100, 101])], (.str [116, 111, 108, 100]), .tup [.str rsd, (.str [99, 111, 100, 101])], (.str [116, 111, 108, 100]), .tup [.str rsd, (.str [99, 111, 100, 101])], .tup [.str rsd, (.str [119, 111, 114, 100])], (.str [116, 111, 108, 100]), .tup [.str rsd, (.str [99, 111, 100, 101])], .tup [.str rsd, (.str (NR x4))], (.str [116, 111, 108, 100]), .tup [.str rsd, (.str [99, 111, 117, 110, 116, 115])], (.str [116, 111, 108, 100]), .tup [.str rsd, (.str [99, 111, 117, 110, 116, 115])], (.str [116, 111, 108, 100]), .tup [.str rsd, (.str [99, 111, 117, 110, 116, 115])], .tup [.str rsd, (.str (NR x4))], .tup [.str rsd, (.str (NR x5))], .tup [.str rsd, (.str (NR x4))]]])) = ((SP a b c).map fun os => LT3.map fun x4 => (.ok (.nx [some (.ref os.length), some (.ins 0 [.tup [.int 25, .int 7], .int 5]), some (x2), some (x3), some (x4), some (x5), some (x6), some (.fn 42), some ((.str (NR x4))), some (.lst [(.str [99, 111, 100, 101]), (.str [116, 111, 108, 100]), (.str [99, 111, 100, 101]), (.str [116, 111, 108, 100]), (.str [99, 111, 100, 101]), (.str [116, 111, 108, 100]), (.str [99, 111, 100, 101]), (.str [119, 111, 114, 100]), (.str [116, 111, 108, 100]), (.str [99, 111, 100, 101]), (.str (NR x4)), (.str [116, 111, 108, 100]), (.str [99, 111, 117, 110, 116, 115]), (.str [116, 111, 108, 100]), (.str [99, 111, 117, 110, 116, 115]), (.str [116, 111, 108, 100])]), some (.ref (os.length + 1)), some (x4), some ((.str (NR x4))), none]) (os ++ pb P :: [.lst [.tup [.str rsd, (.str [99, 111, 100, 101])], (.str [116, 111, 108, 100]), .tup [.str rsd, (.str [99, 111, 100, 101])], (.str [116, 111, 108, 100]), .tup [.str rsd, (.str [99, 111, 100, 101])], (.str [116, 111, 108, 100]), .tup [.str rsd, (.str [99, 111, 100, 101])], .tup [.str rsd, (.str [119, 111, 114, 100])], (.str [116, 111, 108, 100]), .tup [.str rsd, (.str [99, 111, 100, 101])], .tup [.str rsd, (.str (NR x4))], (.str [116, 111, 108, 100]), .tup [.str rsd, (.str [99, 111, 117, 110, 116, 115])], (.str [116, 111, 108, 100]), .tup [.str rsd, (.str [99, 111, 117, 110, 116, 115])], (.str [116, 111, 108, 100]), .tup [.str rsd, (.str [99, 111, 117, 110, 116, 115])], .tup [.str rsd, (.str (NR x4))], .tup [.str rsd, (.str (NR x5))], .tup [.str rsd, (.str (NR x4))], .tup [.str rsd, (.str (NR x4))]]]) : R Oc)) := by kernel_rfl
theorem tT16 (a b c P : T3) (x2 x3 x5 x6 : Vl) : ∀ os ∈ SP a b c, ∀ x4 ∈ LT3, evS G4 LOW (.ex (.mth .append (.var 10) (.acons (.lamc 46 (.call 34 (.acons (.int 5) (.acons (.int 5) (.acons (.var 4) .anil))))) .anil))) [some (.ref os.length), some (.ins 0 [.tup [.int 25, .int 7], .int 5]), some (x2), some (x3), some (x4), some (x5), some (x6), some (.fn 42), some ((.str (NR x4))), some (.lst [(.str [99, 111, 100, 101]), (.str [116, 111, 108, 100]), (.str [99, 111, 100, 101]), (.str [116, 111, 108, 100]), (.str [99, 111, 100, 101]), (.str [116, 111, 108, 100]), (.str [99, 111, 100, 101]), (.str [119, 111, 114, 100]), (.str [116, 111, 108, 100]), (.str [99, 111, 100, 101]), (.str (NR x4)), (.str [116, 111, 108, 100]), (.str [99, 111, 117, 110, 116, 115]), (.str [116, 111, 108, 100]), (.str [99, 111, 117, 110, 116, 115]), (.str [116, 111, 108, 100])]), some (.ref (os.length + 1)), some (x4), some ((.str (NR x4))), none] (os ++ pb P :: [.lst [.tup [.str rsd, (.str [99, 111, 100, 101])], (.str [116, 111, 108, 100]), .tup [.str rsd, (.str [99, 111, 100, 101])], (.str [116, 111, 108, 100]), .tup [.str rsd, (.str [99, 111, 100, 101])], (.str [116, 111, 108, 100]), .tup [.str rsd, (.str [99, 111, 100, 101])], .tup [.str rsd, (.str [119, 111, 114, 100])], (.str [116, 111, 108, 100]), .tup [.str rsd, (.str [99, 111, 100, 101])], .tup [.str rsd, (.str (NR x4))], (.str [116, 111, 108, 100]), .tup [.str rsd, (.str [99, 111, 117, 110, 116, 115])], (.str [116, 111, 108, 100]), .tup [.str rsd, (.str [99, 111, 117, 110, 116, 115])], (.str [116, 111, 108, 100]), .tup [.str rsd, (.str [99, 111, 117, 110, 116, 115])], .tup [.str rsd, (.str (NR x4))], .tup [.str rsd, (.str (NR x5))], .tup [.str rsd, (.str (NR x4))]]]) = (.ok (.nx [some (.ref os.length), some (.ins 0 [.tup [.int 25, .int 7], .int 5]), some (x2), some (x3), some (x4), some (x5), some (x6), some (.fn 42), some ((.str (NR x4))), some (.lst [(.str [99, 111, 100, 101]), (.str [116, 111, 108, 100]), (.str [99, 111, 100, 101]), (.str [116, 111, 108, 100]), (.str [99, 111, 100, 101]), (.str [116, 111, 108, 100]), (.str [99, 111, 100, 101]), (.str [119, 111, 114, 100]), (.str [116, 111, 108, 100]), (.str [99, 111, 100, 101]), (.str (NR x4)), (.str [116, 111, 108, 100]), (.str [99, 111, 117, 110, 116, 115]), (.str [116, 111, 108, 100]), (.str [99, 111, 117, 110, 116, 115]), (.str [116, 111, 108, 100])]), some (.ref (os.length + 1)), some (x4), some ((.str (NR x4))), none]) (os ++ pb P :: [.lst [.tup [.str rsd, (.str [99, 111, 100, 101])], (.str [116, 111, 108, 100]), .tup [.str rsd, (.str [99, 111, 100, 101])], (.str [116, 111, 108, 100]), .tup [.str rsd, (.str [99, 111, 100, 101])], (.str [116, 111, 108, 100]), .tup [.str rsd, (.str [99, 111, 100, 101])], .tup [.str rsd, (.str [119, 111, 114, 100])], (.str [116, 111, 108, 100]), .tup [.str rsd, (.str [99, 111, 100, 101])], .tup [.str rsd, (.str (NR x4))], (.str [116, 111, 108, 100]), .tup [.str rsd, (.str [99, 111, 117, 110, 116, 115])], (.str [116, 111, 108, 100]), .tup [.str rsd, (.str [99, 111, 117, 110, 116, 115])], (.str [116, 111, 108, 100]), .tup [.str rsd, (.str [99, 111, 117, 110, 116, 115])], .tup [.str rsd, (.str (NR x4))], .tup [.str rsd, (.str (NR x5))], .tup [.str rsd, (.str (NR x4))], .tup [.str rsd, (.str (NR x4))]]]) : R Oc) := fun os ho x4 hx4 => all1 (all1 (kT16 a b c P x2 x3 x5 x6) os ho) x4 hx4
theorem kT17 (a b c P : T3) (x2 x3 x4 x5 x6 : Vl) : ((SP a b c).map fun os => evS G4 LOW (.ex (.mth .append (.var 10) (.acons (.lamc 46 (.call 34 (.acons (.int 24) (.acons (.int 24) (.acons (.int 24) .anil))))) .anil))) [some (.ref os.length), some (.ins 0 [.tup [.int 25, .int 7], .int 5]), some (x2), some (x3), some (x4), some (x5), some (x6), some (.fn 42), some ((.str (NR x4))), some (.lst [(.str [99, 111, 100, 101]), (.str [116, 111, 108, 100]), (.str [99, 111, 100, 101]), (.str [116, 111, 108, 100]), (.str [99, 111, 100, 101]), (.str [116, 111, 108, 100]), (.str [99, 111, 100, 101]), (.str [119, 111, 114, 100]), (.str [116, 111, 108, 100]), (.str [99, 111, 100, 101]), (.str (NR x4)), (.str [116, 111, 108, 100]), (.str [99, 111, 117, 110, 116, 115]), (.str [116, 111, 108, 100]), (.str [99, 111, 117, 110, 116, 115]), (.str [116, 111, 108, 100])]), some (.ref (os.length + 1)), some (x4), some ((.str (NR x4))), none] (os ++ pb P :: [.lst [.tup [.str rsd, (.str [99, 111, 100, 101])], (.str [116, 111, 108, 100]), .tup [.str rsd, (.str [99, 111, 100, 101])], (.str [116, 111, 108, 100]), .tup [.str rsd, (.str [99, 111, 100, 101])], (.str [116, 111, 108, 100]), .tup [.str rsd, (.str [99, 111, 100, 101])], .tup [.str rsd, (.str [119, 111, 114, 100])], (.str [116, 111, 108, 100]), .tup [.str rsd, (.str [99, 111, 100, 101])], .tup [.str rsd, (.str (NR x4))], (.str [116, 111, 108, 100]), .tup [.str rsd, (.str [99, 111, 117, 110, 116, 115])], (.str [116, 111, 108, 100]), .tup [.str rsd, (.str [99, 111, 117, 110, 116, 115])], (.str [116, 111, 108, 100]), .tup [.str rsd, (.str [99, 111, 117, 110, 116, 115])], .tup [.str rsd, (.str (NR x4))], .tup [.str rsd, (.str (NR x5))], .tup [.str rsd, (.str (NR x4))], .tup [.str rsd, (.str (NR x4))]]])) = ((SP a b c).map fun os => (.ok (.nx [some (.ref os.length), some (.ins 0 [.tup [.int 25, .int 7], .int 5]), some (x2), some (x3), some (x4), some (x5), some (x6), some (.fn 42), some ((.str (NR x4))), some (.lst [(.str [99, 111, 100, 101]), (.str [116, 111, 108, 100]), (.str [99, 111, 100, 101]), (.str [116, 111, 108, 100]), (.str [99, 111, 100, 101]), (.str [116, 111, 108, 100]), (.str [99, 111, 100, 101]), (.str [119, 111, 114, 100]), (.str [116, 111, 108, 100]), (.str [99, 111, 100, 101]), (.str (NR x4)), (.str [116, 111, 108, 100]), (.str [99, 111, 117, 110, 116, 115]), (.str [116, 111, 108, 100]), (.str [99, 111, 117, 110, 116, 115]), (.str [116, 111, 108, 100])]), some (.ref (os.length + 1)), some (x4), some ((.str (NR x4))), none]) (os ++ pb P :: [.lst [.tup [.str rsd, (.str [99, 111, 100, 101])], (.str [116, 111, 108, 100]), .tup [.str rsd, (.str [99, 111, 100, 101])], (.str [116, 111, 108, 100]), .tup [.str rsd, (.str [99, 111, 100, 101])], (.str [116, 111, 108, 100]), .tup [.str rsd, (.str [99, 111, 100, 101])], .tup [.str rsd, (.str [119, 111, 114, 100])], (.str [116, 111, 108, 100]), .tup [.str rsd, (.str [99, 111, 100, 101])], .tup [.str rsd, (.str (NR x4))], (.str [116, 111, 108, 100]), .tup [.str rsd, (.str [99, 111, 117, 110, 116, 115])], (.str [116, 111, 108, 100]), .tup [.str rsd, (.str [99, 111, 117, 110, 116, 115])], (.str [116, 111, 108, 100]), .tup [.str rsd, (.str [99, 111, 117, 110, 116, 115])], .tup [.str rsd, (.str (NR x4))], .tup [.str rsd, (.str (NR x5))], .tup [.str rsd, (.str (NR x4))], .tup [.str rsd, (.str (NR x4))], (.str [116, 111, 108, 100])]]) : R Oc)) := by kernel_rfl
theorem tT17 (a b c P : T3) (x2 x3 x4 x5 x6 : Vl) : ∀ os ∈ SP a b c,  evS G4 LOW (.ex (.mth .append (.var 10) (.acons (.lamc 46 (.call 34 (.acons (.int 24) (.acons (.int 24) (.acons (.int 24) .anil))))) .anil))) [some (.ref os.length), some (.ins 0 [.tup [.int 25, .int 7], .int 5]), some (x2), some (x3), some (x4), some (x5), some (x6), some (.fn 42), some ((.str (NR x4))), some (.lst [(.str [99, 111, 100, 101]), (.str [116, 111, 108, 100]), (.str [99, 111, 100, 101]), (.str [116, 111, 108, 100]), (.str [99, 111, 100, 101]), (.str [116, 111, 108, 100]), (.str [99, 111, 100, 101]), (.str [119, 111, 114, 100]), (.str [116, 111, 108, 100]), (.str [99, 111, 100, 101]), (.str (NR x4)), (.str [116, 111, 108, 100]), (.str [99, 111, 117, 110, 116, 115]), (.str [116, 111, 108, 100]), (.str [99, 111, 117, 110, 116, 115]), (.str [116, 111, 108, 100])]), some (.ref (os.length + 1)), some (x4), some ((.str (NR x4))), none] (os ++ pb P :: [.lst [.tup [.str rsd, (.str [99, 111, 100, 101])], (.str [116, 111, 108, 100]), .tup [.str rsd, (.str [99, 111, 100, 101])], (.str [116, 111, 108, 100]), .tup [.str rsd, (.str [99, 111, 100, 101])], (.str [116, 111, 108, 100]), .tup [.str rsd, (.str [99, 111, 100, 101])], .tup [.str rsd, (.str [119, 111, 114, 100])], (.str [116, 111, 108, 100]), .tup [.str rsd, (.str [99, 111, 100, 101])], .tup [.str rsd, (.str (NR x4))], (.str [116, 111, 108, 100]), .tup [.str rsd, (.str [99, 111, 117, 110, 116, 115])], (.str [116, 111, 108, 100]), .tup [.str rsd, (.str [99, 111, 117, 110, 116, 115])], (.str [116, 111, 108, 100]), .tup [.str rsd, (.str [99, 111, 117, 110, 116, 115])], .tup [.str rsd, (.str (NR x4))], .tup [.str rsd, (.str (NR x5))], .tup [.str rsd, (.str (NR x4))], .tup [.str rsd, (.str (NR x4))]]]) = (.ok (.nx [some (.ref os.length), some (.ins 0 [.tup [.int 25, .int 7], .int 5]), some (x2), some (x3), some (x4), some (x5), some (x6), some (.fn 42), some ((.str (NR x4))), some (.lst [(.str [99, 111, 100, 101]), (.str [116, 111, 108, 100]), (.str [99, 111, 100, 101]), (.str [116, 111, 108, 100]), (.str [99, 111, 100, 101]), (.str [116, 111, 108, 100]), (.str [99, 111, 100, 101]), (.str [119, 111, 114, 100]), (.str [116, 111, 108, 100]), (.str [99, 111, 100, 101]), (.str (NR x4)), (.str [116, 111, 108, 100]), (.str [99, 111, 117, 110, 116, 115]), (.str [116, 111, 108, 100]), (.str [99, 111, 117, 110, 116, 115]), (.str [116, 111, 108, 100])]), some (.ref (os.length + 1)), some (x4), some ((.str (NR x4))), none]) (os ++ pb P :: [.lst [.tup [.str rsd, (.str [99, 111, 100, 101])], (.str [116, 111, 108, 100]), .tup [.str rsd, (.str [99, 111, 100, 101])], (.str [116, 111, 108, 100]), .tup [.str rsd, (.str [99, 111, 100, 101])], (.str [116, 111, 108, 100]), .tup [.str rsd, (.str [99, 111, 100, 101])], .tup [.str rsd, (.str [119, 111, 114, 100])], (.str [116, 111, 108, 100]), .tup [.str rsd, (.str [99, 111, 100, 101])], .tup [.str rsd, (.str (NR x4))], (.str [116, 111, 108, 100]), .tup [.str rsd, (.str [99, 111, 117, 110, 116, 115])], (.str [116, 111, 108, 100]), .tup [.str rsd, (.str [99, 111, 117, 110, 116, 115])], (.str [116, 111, 108, 100]), .tup [.str rsd, (.str [99, 111, 117, 110, 116, 115])], .tup [.str rsd, (.str (NR x4))], .tup [.str rsd, (.str (NR x5))], .tup [.str rsd, (.str (NR x4))], .tup [.str rsd, (.str (NR x4))], (.str [116, 111, 108, 100])]]) : R Oc) := fun os ho => all1 (kT17 a b c P x2 x3 x4 x5 x6) os ho
theorem kT18 (a b c P : T3) (x2 x3 x4 x6 : Vl) : ((SP a b c).map fun os => LT4.map fun x5 => evS G4 LOW (.set 9 (.fz (.cat (.var 9) (.fz (.disp (.acons (.str [99, 111, 117, 110, 116, 115]) (.acons (.var 8) (.acons (.bin .add (.str [110, 117, 109, 98, 101, 114, 32]) (.rpr (.var 5))) (.acons (.var 8) (.acons (.var 8) (.acons (.str [116, 111, 108, 100]) .anil))))))))))) [some (.ref os.length), some (.ins 0 [.tup [.int 25, .int 7], .int 5]), some (x2), some (x3), some (x4), some (x5), some (x6), some (.fn 42), some ((.str (NR x4))), some (.lst [(.str [99, 111, 100, 101]), (.str [116, 111, 108, 100]), (.str [99, 111, 100, 101]), (.str [116, 111, 108, 100]), (.str [99, 111, 100, 101]), (.str [116, 111, 108, 100]), (.str [99, 111, 100, 101]), (.str [119, 111, 114, 100]), (.str [116, 111, 108, 100]), (.str [99, 111, 100, 101]), (.str (NR x4)), (.str [116, 111, 108, 100]), (.str [99, 111, 117, 110, 116, 115]), (.str [116, 111, 108, 100]), (.str [99, 111, 117, 110, 116, 115]), (.str [116, 111, 108, 100])]), some (.ref (os.length + 1)), some (x4), some ((.str (NR x4))), none] (os ++ pb P :: [.lst [.tup [.str rsd, (.str [99, 111, 100, 101])], (.str [116, 111, 108, 100]), .tup [.str rsd, (.str [99, 111, 100, 101])], (.str [116, 111, 108, 100]), .tup [.str rsd, (.str [99, 111, 100, 101])], (.str [116, 111, 108, 100]), .tup [.str rsd, (.str [99, 111, 100, 101])], .tup [.str rsd, (.str [119, 111, 114, 100])], (.str [116, 111, 108, 100]), .tup [.str rsd, (.str [99, 111, 100, 101])], .tup [.str rsd, (.str (NR x4))], (.str [116, 111, 108, 100]), .tup [.str rsd, (.str [99, 111, 117, 110, 116, 115])], (.str [116, 111, 108, 100]), .tup [.str rsd, (.str [99, 111, 117, 110, 116, 115])], (.str [116, 111, 108, 100]), .tup [.str rsd, (.str [99, 111, 117, 110, 116, 115])], .tup [.str rsd, (.str (NR x4))], .tup [.str rsd, (.str (NR x5))], .tup [.str rsd, (.str (NR x4))], .tup [.str rsd, (.str (NR x4))], (.str [116, 111, 108, 100])]])) = ((SP a b c).map fun os => LT4.map fun x5 => (.ok (.nx [some (.ref os.length), some (.ins 0 [.tup [.int 25, .int 7], .int 5]), some (x2), some (x3), some (x4), some (x5), some (x6), some (.fn 42), some ((.str (NR x4))), some (.lst [(.str [99, 111, 100, 101]), (.str [116, 111, 108, 100]), (.str [99, 111, 100, 101]), (.str [116, 111, 108, 100]), (.str [99, 111, 100, 101]), (.str [116, 111, 108, 100]), (.str [99, 111, 100, 101]), (.str [119, 111, 114, 100]), (.str [116, 111, 108, 100]), (.str [99, 111, 100, 101]), (.str (NR x4)), (.str [116, 111, 108, 100]), (.str [99, 111, 117, 110, 116, 115]), (.str [116, 111, 108, 100]), (.str [99, 111, 117, 110, 116, 115]), (.str [116, 111, 108, 100]), (.str [99, 111, 117, 110, 116, 115]), (.str (NR x4)), (.str (NR x5)), (.str (NR x4)), (.str (NR x4)), (.str [116, 111, 108, 100])]), some (.ref (os.length + 1)), some (x4), some ((.str (NR x4))), none]) (os ++ pb P :: [.lst [.tup [.str rsd, (.str [99, 111, 100, 101])], (.str [116, 111, 108, 100]), .tup [.str rsd, (.str [99, 111, 100, 101])], (.str [116, 111, 108, 100]), .tup [.str rsd, (.str [99, 111, 100, 101])], (.str [116, 111, 108, 100]), .tup [.str rsd, (.str [99, 111, 100, 101])], .tup [.str rsd, (.str [119, 111, 114, 100])], (.str [116, 111, 108, 100]), .tup [.str rsd, (.str [99, 111, 100, 101])], .tup [.str rsd, (.str (NR x4))], (.str [116, 111, 108, 100]), .tup [.str rsd, (.str [99, 111, 117, 110, 116, 115])], (.str [116, 111, 108, 100]), .tup [.str rsd, (.str [99, 111, 117, 110, 116, 115])], (.str [116, 111, 108, 100]), .tup [.str rsd, (.str [99, 111, 117, 110, 116, 115])], .tup [.str rsd, (.str (NR x4))], .tup [.str rsd, (.str (NR x5))], .tup [.str rsd, (.str (NR x4))], .tup [.str rsd, (.str (NR x4))], (.str [116, 111, 108, 100])]]) : R Oc)) := by kernel_rfl
theorem tT18 (a b c P : T3) (x2 x3 x4 x6 : Vl) : ∀ os ∈ SP a b c, ∀ x5 ∈ LT4, evS G4 LOW (.set 9 (.fz (.cat (.var 9) (.fz (.disp (.acons (.str [99, 111, 117, 110, 116, 115]) (.acons (.var 8) (.acons (.bin .add (.str [110, 117, 109, 98, 101, 114, 32]) (.rpr (.var 5))) (.acons (.var 8) (.acons (.var 8) (.acons (.str [116, 111, 108, 100]) .anil))))))))))) [some (.ref os.length), some (.ins 0 [.tup [.int 25, .int 7], .int 5]), some (x2), some (x3), some (x4), some (x5), some (x6), some (.fn 42), some ((.str (NR x4))), some (.lst [(.str [99, 111, 100, 101]), (.str [116, 111, 108, 100]), (.str [99, 111, 100, 101]), (.str [116, 111, 108, 100]), (.str [99, 111, 100, 101]), (.str [116, 111, 108, 100]), (.str [99, 111, 100, 101]), (.str [119, 111, 114, 100]), (.str [116, 111, 108, 100]), (.str [99, 111, 100, 101]), (.str (NR x4)), (.str [116, 111, 108, 100]), (.str [99, 111, 117, 110, 116, 115]), (.str [116, 111, 108, 100]), (.str [99, 111, 117, 110, 116, 115]), (.str [116, 111, 108, 100])]), some (.ref (os.length + 1)), some (x4), some ((.str (NR x4))), none] (os ++ pb P :: [.lst [.tup [.str rsd, (.str [99, 111, 100, 101])], (.str [116, 111, 108, 100]), .tup [.str rsd, (.str [99, 111, 100, 101])], (.str [116, 111, 108, 100]), .tup [.str rsd, (.str [99, 111, 100, 101])], (.str [116, 111, 108, 100]), .tup [.str rsd, (.str [99, 111, 100, 101])], .tup [.str rsd, (.str [119, 111, 114, 100])], (.str [116, 111, 108, 100]), .tup [.str rsd, (.str [99, 111, 100, 101])], .tup [.str rsd, (.str (NR x4))], (.str [116, 111, 108, 100]), .tup [.str rsd, (.str [99, 111, 117, 110, 116, 115])], (.str [116, 111, 108, 100]), .tup [.str rsd, (.str [99, 111, 117, 110, 116, 115])], (.str [116, 111, 108, 100]), .tup [.str rsd, (.str [99, 111, 117, 110, 116, 115])], .tup [.str rsd, (.str (NR x4))], .tup [.str rsd, (.str (NR x5))], .tup [.str rsd, (.str (NR x4))], .tup [.str rsd, (.str (NR x4))], (.str [116, 111, 108, 100])]]) = (.ok (.nx [some (.ref os.length), some (.ins 0 [.tup [.int 25, .int 7], .int 5]), some (x2), some (x3), some (x4), some (x5), some (x6), some (.fn 42), some ((.str (NR x4))), some (.lst [(.str [99, 111, 100, 101]), (.str [116, 111, 108, 100]), (.str [99, 111, 100, 101]), (.str [116, 111, 108, 100]), (.str [99, 111, 100, 101]), (.str [116, 111, 108, 100]), (.str [99, 111, 100, 101]), (.str [119, 111, 114, 100]), (.str [116, 111, 108, 100]), (.str [99, 111, 100, 101]), (.str (NR x4)), (.str [116, 111, 108, 100]), (.str [99, 111, 117, 110, 116, 115]), (.str [116, 111, 108, 100]), (.str [99, 111, 117, 110, 116, 115]), (.str [116, 111, 108, 100]), (.str [99, 111, 117, 110, 116, 115]), (.str (NR x4)), (.str (NR x5)), (.str (NR x4)), (.str (NR x4)), (.str [116, 111, 108, 100])]), some (.ref (os.length + 1)), some (x4), some ((.str (NR x4))), none]) (os ++ pb P :: [.lst [.tup [.str rsd, (.str [99, 111, 100, 101])], (.str [116, 111, 108, 100]), .tup [.str rsd, (.str [99, 111, 100, 101])], (.str [116, 111, 108, 100]), .tup [.str rsd, (.str [99, 111, 100, 101])], (.str [116, 111, 108, 100]), .tup [.str rsd, (.str [99, 111, 100, 101])], .tup [.str rsd, (.str [119, 111, 114, 100])], (.str [116, 111, 108, 100]), .tup [.str rsd, (.str [99, 111, 100, 101])], .tup [.str rsd, (.str (NR x4))], (.str [116, 111, 108, 100]), .tup [.str rsd, (.str [99, 111, 117, 110, 116, 115])], (.str [116, 111, 108, 100]), .tup [.str rsd, (.str [99, 111, 117, 110, 116, 115])], (.str [116, 111, 108, 100]), .tup [.str rsd, (.str [99, 111, 117, 110, 116, 115])], .tup [.str rsd, (.str (NR x4))], .tup [.str rsd, (.str (NR x5))], .tup [.str rsd, (.str (NR x4))], .tup [.str rsd, (.str (NR x4))], (.str [116, 111, 108, 100])]]) : R Oc) := fun os ho x5 hx5 => all1 (all1 (kT18 a b c P x2 x3 x4 x6) os ho) x5 hx5
theorem kT19 (a b c P : T3) (x2 x3 x6 : Vl) : ((SP a b c).map fun os => LT3.map fun x4 => LT4.map fun x5 => evS G4 LOW (.ret (.cmp .eq (.var 10) (.fz (.comp [13] (.n 13) (.over (.var 9)) .noe (.ite (.cmp .eq (.var 13) (.str [116, 111, 108, 100])) (.var 13) (.tup (.acons (.str [114, 97, 105, 115, 101, 100]) (.acons (.var 13) .anil)))))))) [some (.ref os.length), some (.ins 0 [.tup [.int 25, .int 7], .int 5]), some (x2), some (x3), some (x4), some (x5), some (x6), some (.fn 42), some ((.str (NR x4))), some (.lst [(.str [99, 111, 100, 101]), (.str [116, 111, 108, 100]), (.str [99, 111, 100, 101]), (.str [116, 111, 108, 100]), (.str [99, 111, 100, 101]), (.str [116, 111, 108, 100]), (.str [99, 111, 100, 101]), (.str [119, 111, 114, 100]), (.str [116, 111, 108, 100]), (.str [99, 111, 100, 101]), (.str (NR x4)), (.str [116, 111, 108, 100]), (.str [99, 111, 117, 110, 116, 115]), (.str [116, 111, 108, 100]), (.str [99, 111, 117, 110, 116, 115]), (.str [116, 111, 108, 100]), (.str [99, 111, 117, 110, 116, 115]), (.str (NR x4)), (.str (NR x5)), (.str (NR x4)), (.str (NR x4)), (.str [116, 111, 108, 100])]), some (.ref (os.length + 1)), some (x4), some ((.str (NR x4))), none] (os ++ pb P :: [.lst [.tup [.str rsd, (.str [99, 111, 100, 101])], (.str [116, 111, 108, 100]), .tup [.str rsd, (.str [99, 111, 100, 101])], (.str [116, 111, 108, 100]), .tup [.str rsd, (.str [99, 111, 100, 101])], (.str [116, 111, 108, 100]), .tup [.str rsd, (.str [99, 111, 100, 101])], .tup [.str rsd, (.str [119, 111, 114, 100])], (.str [116, 111, 108, 100]), .tup [.str rsd, (.str [99, 111, 100, 101])], .tup [.str rsd, (.str (NR x4))], (.str [116, 111, 108, 100]), .tup [.str rsd, (.str [99, 111, 117, 110, 116, 115])], (.str [116, 111, 108, 100]), .tup [.str rsd, (.str [99, 111, 117, 110, 116, 115])], (.str [116, 111, 108, 100]), .tup [.str rsd, (.str [99, 111, 117, 110, 116, 115])], .tup [.str rsd, (.str (NR x4))], .tup [.str rsd, (.str (NR x5))], .tup [.str rsd, (.str (NR x4))], .tup [.str rsd, (.str (NR x4))], (.str [116, 111, 108, 100])]])) = ((SP a b c).map fun os => LT3.map fun x4 => LT4.map fun x5 => (.ok (.rt (.bl true)) (os ++ pb P :: [.lst [.tup [.str rsd, (.str [99, 111, 100, 101])], (.str [116, 111, 108, 100]), .tup [.str rsd, (.str [99, 111, 100, 101])], (.str [116, 111, 108, 100]), .tup [.str rsd, (.str [99, 111, 100, 101])], (.str [116, 111, 108, 100]), .tup [.str rsd, (.str [99, 111, 100, 101])], .tup [.str rsd, (.str [119, 111, 114, 100])], (.str [116, 111, 108, 100]), .tup [.str rsd, (.str [99, 111, 100, 101])], .tup [.str rsd, (.str (NR x4))], (.str [116, 111, 108, 100]), .tup [.str rsd, (.str [99, 111, 117, 110, 116, 115])], (.str [116, 111, 108, 100]), .tup [.str rsd, (.str [99, 111, 117, 110, 116, 115])], (.str [116, 111, 108, 100]), .tup [.str rsd, (.str [99, 111, 117, 110, 116, 115])], .tup [.str rsd, (.str (NR x4))], .tup [.str rsd, (.str (NR x5))], .tup [.str rsd, (.str (NR x4))], .tup [.str rsd, (.str (NR x4))], (.str [116, 111, 108, 100])]]) : R Oc)) := by kernel_rfl
theorem tT19 (a b c P : T3) (x2 x3 x6 : Vl) : ∀ os ∈ SP a b c, ∀ x4 ∈ LT3, ∀ x5 ∈ LT4, evS G4 LOW (.ret (.cmp .eq (.var 10) (.fz (.comp [13] (.n 13) (.over (.var 9)) .noe (.ite (.cmp .eq (.var 13) (.str [116, 111, 108, 100])) (.var 13) (.tup (.acons (.str [114, 97, 105, 115, 101, 100]) (.acons (.var 13) .anil)))))))) [some (.ref os.length), some (.ins 0 [.tup [.int 25, .int 7], .int 5]), some (x2), some (x3), some (x4), some (x5), some (x6), some (.fn 42), some ((.str (NR x4))), some (.lst [(.str [99, 111, 100, 101]), (.str [116, 111, 108, 100]), (.str [99, 111, 100, 101]), (.str [116, 111, 108, 100]), (.str [99, 111, 100, 101]), (.str [116, 111, 108, 100]), (.str [99, 111, 100, 101]), (.str [119, 111, 114, 100]), (.str [116, 111, 108, 100]), (.str [99, 111, 100, 101]), (.str (NR x4)), (.str [116, 111, 108, 100]), (.str [99, 111, 117, 110, 116, 115]), (.str [116, 111, 108, 100]), (.str [99, 111, 117, 110, 116, 115]), (.str [116, 111, 108, 100]), (.str [99, 111, 117, 110, 116, 115]), (.str (NR x4)), (.str (NR x5)), (.str (NR x4)), (.str (NR x4)), (.str [116, 111, 108, 100])]), some (.ref (os.length + 1)), some (x4), some ((.str (NR x4))), none] (os ++ pb P :: [.lst [.tup [.str rsd, (.str [99, 111, 100, 101])], (.str [116, 111, 108, 100]), .tup [.str rsd, (.str [99, 111, 100, 101])], (.str [116, 111, 108, 100]), .tup [.str rsd, (.str [99, 111, 100, 101])], (.str [116, 111, 108, 100]), .tup [.str rsd, (.str [99, 111, 100, 101])], .tup [.str rsd, (.str [119, 111, 114, 100])], (.str [116, 111, 108, 100]), .tup [.str rsd, (.str [99, 111, 100, 101])], .tup [.str rsd, (.str (NR x4))], (.str [116, 111, 108, 100]), .tup [.str rsd, (.str [99, 111, 117, 110, 116, 115])], (.str [116, 111, 108, 100]), .tup [.str rsd, (.str [99, 111, 117, 110, 116, 115])], (.str [116, 111, 108, 100]), .tup [.str rsd, (.str [99, 111, 117, 110, 116, 115])], .tup [.str rsd, (.str (NR x4))], .tup [.str rsd, (.str (NR x5))], .tup [.str rsd, (.str (NR x4))], .tup [.str rsd, (.str (NR x4))], (.str [116, 111, 108, 100])]]) = (.ok (.rt (.bl true)) (os ++ pb P :: [.lst [.tup [.str rsd, (.str [99, 111, 100, 101])], (.str [116, 111, 108, 100]), .tup [.str rsd, (.str [99, 111, 100, 101])], (.str [116, 111, 108, 100]), .tup [.str rsd, (.str [99, 111, 100, 101])], (.str [116, 111, 108, 100]), .tup [.str rsd, (.str [99, 111, 100, 101])], .tup [.str rsd, (.str [119, 111, 114, 100])], (.str [116, 111, 108, 100]), .tup [.str rsd, (.str [99, 111, 100, 101])], .tup [.str rsd, (.str (NR x4))], (.str [116, 111, 108, 100]), .tup [.str rsd, (.str [99, 111, 117, 110, 116, 115])], (.str [116, 111, 108, 100]), .tup [.str rsd, (.str [99, 111, 117, 110, 116, 115])], (.str [116, 111, 108, 100]), .tup [.str rsd, (.str [99, 111, 117, 110, 116, 115])], .tup [.str rsd, (.str (NR x4))], .tup [.str rsd, (.str (NR x5))], .tup [.str rsd, (.str (NR x4))], .tup [.str rsd, (.str (NR x4))], (.str [116, 111, 108, 100])]]) : R Oc) := fun os ho x4 hx4 x5 hx5 => all1 (all1 (all1 (kT19 a b c P x2 x3 x6) os ho) x4 hx4) x5 hx5
theorem fin_right (a b c P : T3) (x2 x3 x4 x5 x6 : Vl) : ∀ os ∈ SP a b c, fin true (os ++ [pb P]).length (.bl true) (os ++ pb P :: [.lst [.tup [.str rsd, (.str [99, 111, 100, 101])], (.str [116, 111, 108, 100]), .tup [.str rsd, (.str [99, 111, 100, 101])], (.str [116, 111, 108, 100]), .tup [.str rsd, (.str [99, 111, 100, 101])], (.str [116, 111, 108, 100]), .tup [.str rsd, (.str [99, 111, 100, 101])], .tup [.str rsd, (.str [119, 111, 114, 100])], (.str [116, 111, 108, 100]), .tup [.str rsd, (.str [99, 111, 100, 101])], .tup [.str rsd, (.str (NR x4))], (.str [116, 111, 108, 100]), .tup [.str rsd, (.str [99, 111, 117, 110, 116, 115])], (.str [116, 111, 108, 100]), .tup [.str rsd, (.str [99, 111, 117, 110, 116, 115])], (.str [116, 111, 108, 100]), .tup [.str rsd, (.str [99, 111, 117, 110, 116, 115])], .tup [.str rsd, (.str (NR x4))], .tup [.str rsd, (.str (NR x5))], .tup [.str rsd, (.str (NR x4))], .tup [.str rsd, (.str (NR x4))], (.str [116, 111, 108, 100])]]) = .ok (.bl true) (os ++ [pb P]) :=
  all1 (by kernel_rfl)
theorem right {a b c P : T3} {os : Hh} (ho : os ∈ SP a b c) : ∃ P', run2 GG LOW FH 5 47 [.ref os.length] (os ++ [pb P]) = .ok (.bl true) (os ++ [pb P']) := by
  have c0 := tT0 a b c P os ho
  obtain ⟨x2, P2, m2, c1⟩ := draw_step (G := G4) (env := [some (.ref os.length), some (.ins 0 [.tup [.int 25, .int 7], .int 5]), none, none, none, none, none, none, none, none, none, none, none, none]) (P := P) (i := 2) (os := os) (tl := []) (eT1 os .non _) rfl (List.cons_ne_nil _ _) (by decide)
  obtain ⟨x3, P3, m3, c2⟩ := draw_step (G := G4) (env := [some (.ref os.length), some (.ins 0 [.tup [.int 25, .int 7], .int 5]), some (x2), none, none, none, none, none, none, none, none, none, none, none]) (P := P2) (i := 3) (os := os) (tl := []) (eT2 os x2 _) rfl (List.cons_ne_nil _ _) (by decide)
  obtain ⟨x4, P4, m4, c3⟩ := draw_step (G := G4) (env := [some (.ref os.length), some (.ins 0 [.tup [.int 25, .int 7], .int 5]), some (x2), some (x3), none, none, none, none, none, none, none, none, none, none]) (P := P3) (i := 4) (os := os) (tl := []) (eT3 os x2 x3 _) rfl (List.cons_ne_nil _ _) (by decide)
  obtain ⟨x5, P5, m5, c4⟩ := draw_step (G := G4) (env := [some (.ref os.length), some (.ins 0 [.tup [.int 25, .int 7], .int 5]), some (x2), some (x3), some (x4), none, none, none, none, none, none, none, none, none]) (P := P4) (i := 5) (os := os) (tl := []) (eT4 os x2 x3 x4 _) rfl (List.cons_ne_nil _ _) (by decide)
  have c5 := tT5 a b c P5 x2 x3 x4 x5 os ho
  obtain ⟨x6, P7, m6, c6⟩ := draw_step (G := G4) (env := [some (.ref os.length), some (.ins 0 [.tup [.int 25, .int 7], .int 5]), some (x2), some (x3), some (x4), some (x5), some (.lst [.non, (.tup []), (.tup [(.int 1)]), (.lst [(.int 1), (.int 0), (.int 1)]), (.tup [(.int 1), (.bl true)]), (.tup [(.int 1), (.str [48])]), (.tup [(.int 1), (.int 1), (.int 1), (.int 1), (.int 1), (.int 1), (.int 1), (.int 1), (.int 1), (.int 1), (.int 1), (.int 1), (.int 1), (.int 1), (.int 1), (.int 1), (.int 1), (.int 1), (.int 1), (.int 1), (.int 1), (.int 1), (.int 1), (.int 1), (.int 1), (.int 1)]), (.tup [(.int 1), (.int 1000000000000000000000000000000000000000000000000000000000000)]), (.int 5), (.dct []), (.tup [(.int 1), .non])]), none, none, none, none, none, none, none]) (P := P5) (i := 6) (os := os) (tl := []) (eT6 os x2 x3 x4 x5 _) rfl (List.cons_ne_nil _ _) (by decide)
  have c7 := tT7 a b c P7 x2 x3 x4 x5 x6 os ho
  have cw8 := tTw8 a b c P7 x2 x3 x4 x5 x6 os ho
  have cq1 := tTq1 a b c P7 x3 x4 x5 x6 os ho x2 m2
  have cq2 := tTq2 a b c P7 x2 x3 x4 x5 x6 os ho
  have cq3 := tTq3 a b c P7 x2 x3 x4 x5 x6 os ho
  have cq4 := tTq4 a b c P7 x3 x4 x5 x6 os ho x2 m2
  have cq5 := tTq5 a b c P7 x2 x3 x4 x5 x6 os ho
  have cq6 := tTq6 a b c P7 x2 x3 x4 x5 x6 os ho
  have cq7 := tTq7 a b c P7 x3 x4 x5 x6 os ho x2 m2
  have cq8 := tTq8 a b c P7 x2 x3 x4 x5 x6 os ho
  have cq9 := tTq9 a b c P7 x2 x3 x4 x5 x6 os ho
  have c8 := fors_step (G := G4) (tg := (.n 7)) (b := (.seq (.ex (.mth .append (.var 10) (.acons (.lamc 46 (.callv 7 (.acons (.var 2) .anil))) .anil))) (.seq (.ex (.mth .append (.var 10) (.acons (.lamc 46 (.callv 7 (.acons (.var 1) .anil))) .anil))) (.set 9 (.fz (.cat (.var 9) (.fz (.disp (.acons (.str [99, 111, 100, 101]) (.acons (.str [116, 111, 108, 100]) .anil)))))))))) cw8 (forL_cons (turn_step rfl (seq_step cq1 (seq_step cq2 (cq3)))) (forL_cons (turn_step rfl (seq_step cq4 (seq_step cq5 (cq6)))) (forL_cons (turn_step rfl (seq_step cq7 (seq_step cq8 (cq9)))) rfl)))
  have c9 := tT9 a b c P7 x2 x3 x5 x6 os ho x4 m4
  have cw10 := tTw10 a b c P7 x2 x3 x4 x5 x6 os ho
  have cq10 := tTq10 a b c P7 x3 x4 x5 x6 os ho x2 m2
  have cq11 := tTq11 a b c P7 x2 x4 x5 x6 os ho x3 m3
  have cq12 := tTq12 a b c P7 x2 x3 x4 x5 x6 os ho
  have cq13 := tTq13 a b c P7 x2 x3 x4 x5 x6 os ho
  have cq14 := tTq14 a b c P7 x3 x4 x5 x6 os ho x2 m2
  have cq15 := tTq15 a b c P7 x2 x3 x5 x6 os ho x4 m4
  have cq16 := tTq16 a b c P7 x2 x3 x4 x5 x6 os ho
  have cq17 := tTq17 a b c P7 x2 x3 x4 x5 x6 os ho
  have c10 := fors_step (G := G4) (tg := (.t [7, 11, 12])) (b := (.seq (.ex (.mth .append (.var 10) (.acons (.lamc 46 (.callv 7 (.acons (.var 2) (.acons (.var 11) .anil)))) .anil))) (.seq (.ex (.mth .append (.var 10) (.acons (.lamc 46 (.callv 7 (.acons (.var 1) (.acons (.var 11) .anil)))) .anil))) (.seq (.ex (.mth .append (.var 10) (.acons (.lamc 46 (.callv 7 (.acons (.var 1) (.acons (.int 5) .anil)))) .anil))) (.set 9 (.fz (.cat (.var 9) (.fz (.disp (.acons (.str [99, 111, 100, 101]) (.acons (.var 12) (.acons (.str [116, 111, 108, 100]) .anil)))))))))))) cw10 (forL_cons (turn_step rfl (seq_step cq10 (seq_step cq11 (seq_step cq12 (cq13))))) (forL_cons (turn_step rfl (seq_step cq14 (seq_step cq15 (seq_step cq16 (cq17))))) rfl))
  have cw11 := tTw11 a b c P7 x2 x3 x4 x5 x6 os ho
  have cq18 := tTq18 a b c P7 x2 x3 x4 x5 os ho x6 m6
  have cq19 := tTq19 a b c P7 x2 x3 x4 x5 x6 os ho
  have cq20 := tTq20 a b c P7 x2 x3 x4 x5 x6 os ho
  have cq21 := tTq21 a b c P7 x2 x3 x4 x5 os ho x6 m6
  have cq22 := tTq22 a b c P7 x2 x3 x4 x5 x6 os ho
  have cq23 := tTq23 a b c P7 x2 x3 x4 x5 x6 os ho
  have c11 := fors_step (G := G4) (tg := (.n 7)) (b := (.seq (.ex (.mth .append (.var 10) (.acons (.lamc 46 (.callv 7 (.acons (.var 6) .anil))) .anil))) (.seq (.ex (.mth .append (.var 10) (.acons (.lamc 46 (.callv 7 (.acons (.tup (.acons (.bin .pow (.int 10) (.int 59)) (.acons (.bin .sub (.int 0) (.bin .pow (.int 10) (.int 59))) .anil))) .anil))) .anil))) (.set 9 (.fz (.cat (.var 9) (.fz (.disp (.acons (.str [99, 111, 117, 110, 116, 115]) (.acons (.str [116, 111, 108, 100]) .anil)))))))))) cw11 (forL_cons (turn_step rfl (seq_step cq18 (seq_step cq19 (cq20)))) (forL_cons (turn_step rfl (seq_step cq21 (seq_step cq22 (cq23)))) rfl))
  have c12 := tT12 a b c P7 x2 x3 x5 os ho x6 m6 x4 m4
  have c13 := tT13 a b c P7 x2 x3 x5 x6 os ho x4 m4
  have c14 := tT14 a b c P7 x2 x3 x6 os ho x5 m5 x4 m4
  have c15 := tT15 a b c P7 x2 x3 x5 x6 os ho x4 m4
  have c16 := tT16 a b c P7 x2 x3 x5 x6 os ho x4 m4
  have c17 := tT17 a b c P7 x2 x3 x4 x5 x6 os ho
  have c18 := tT18 a b c P7 x2 x3 x4 x6 os ho x5 m5
  have c19 := tT19 a b c P7 x2 x3 x6 os ho x4 m4 x5 m5
  have cF := fin_right a b c P7 x2 x3 x4 x5 x6 os ho
  refine ⟨P7, ?_⟩
  have e : evS G4 LOW f47.body ([some (.ref os.length)] ++ List.replicate 13 none) (os ++ [pb P]) = .ok (.rt (.bl true)) (os ++ pb P7 :: [.lst [.tup [.str rsd, (.str [99, 111, 100, 101])], (.str [116, 111, 108, 100]), .tup [.str rsd, (.str [99, 111, 100, 101])], (.str [116, 111, 108, 100]), .tup [.str rsd, (.str [99, 111, 100, 101])], (.str [116, 111, 108, 100]), .tup [.str rsd, (.str [99, 111, 100, 101])], .tup [.str rsd, (.str [119, 111, 114, 100])], (.str [116, 111, 108, 100]), .tup [.str rsd, (.str [99, 111, 100, 101])], .tup [.str rsd, (.str (NR x4))], (.str [116, 111, 108, 100]), .tup [.str rsd, (.str [99, 111, 117, 110, 116, 115])], (.str [116, 111, 108, 100]), .tup [.str rsd, (.str [99, 111, 117, 110, 116, 115])], (.str [116, 111, 108, 100]), .tup [.str rsd, (.str [99, 111, 117, 110, 116, 115])], .tup [.str rsd, (.str (NR x4))], .tup [.str rsd, (.str (NR x5))], .tup [.str rsd, (.str (NR x4))], .tup [.str rsd, (.str (NR x4))], (.str [116, 111, 108, 100])]]) := seq_step c0 (seq_step c1 (seq_step c2 (seq_step c3 (seq_step c4 (seq_step c5 (seq_step c6 (seq_step c7 (seq_step c8 (seq_step c9 (seq_step c10 (seq_step c11 (seq_step c12 (seq_step c13 (seq_step c14 (seq_step c15 (seq_step c16 (seq_step c17 (seq_step c18 ( c19)))))))))))))))))))
  show endF true (os ++ [pb P]).length (evS G4 LOW f47.body ([some (.ref os.length)] ++ List.replicate 13 none) (os ++ [pb P])) = _
  rw [e]
  have hl : (os ++ [pb P]).length = (os ++ [pb P7]).length := by rw [List.length_append, List.length_append]; rfl
  rw [hl]
  exact cF
end Err
set_option Elab.async false
set_option linter.all false
set_option maxRecDepth 100000
set_option maxHeartbeats 0
namespace Err
open Law Mi
def cw : Vl := .ins 0 [.tup [.int 2048, .int 1024, .int 512, .int 256, .int 128, .int 64, .int 32, .int 16, .int 8, .int 4, .int 2, .int 1], .int 24]
theorem kmk (a b c d : T3) (x y : Option Vl) (u0 : Vl) : ((SQ a b c d).map fun os => evA G5 LOW (.acons (.mk 0 (.acons (.int 24) (.acons (.bif .tuple (.acons (.fz (.comp [5] (.n 5) (.range (.acons (.int 12) .anil)) .noe (.bin .shl (.int 1) (.var 5)))) .anil)) .anil))) (.acons (.int 6) .anil)) [some (u0), x, none, y, none, none] (os ++ [])) = ((SQ a b c d).map fun os => (.ok [cw, Law.iv 6] (os ++ []) : R (List Vl))) := by kernel_rfl
theorem kw0 (a b c d : T3) (x y : Option Vl) (u0 : Vl) : ((SQ a b c d).map fun os => evS GG (run GG FL 19) (.ex (.call 19 (.acons (.var 0) .anil))) [some cw, some (Law.iv 6)] (os ++ [])) = ((SQ a b c d).map fun os => (.ok (.nx [some cw, some (Law.iv 6)]) (os ++ []) : R Oc)) := by kernel_rfl
theorem kw1 (a b c d : T3) (x y : Option Vl) (u0 : Vl) : ((SQ a b c d).map fun os => evS GG (run GG FL 19) (.ex (.call 33 (.acons (.attr (.var 0) 2) (.acons (.var 1) .anil)))) [some cw, some (Law.iv 6)] (os ++ [])) = ((SQ a b c d).map fun os => (.ok (.nx [some cw, some (Law.iv 6)]) (os ++ []) : R Oc)) := by kernel_rfl
theorem kw2 (a b c d : T3) (x y : Option Vl) (u0 : Vl) : ((SQ a b c d).map fun os => evS GG (run GG FL 19) (.ifs (.cmp .gt (.bin .shl (.int 1) (.bif .len (.acons (.attr (.var 0) 3) .anil))) (.gl 3)) (.raise 4 (.acons (.gl 3) .anil)) .skip) [some cw, some (Law.iv 6)] (os ++ [])) = ((SQ a b c d).map fun os => (.ok (.nx [some cw, some (Law.iv 6)]) (os ++ []) : R Oc)) := by kernel_rfl
theorem kw3 (a b c d : T3) (x y : Option Vl) (u0 : Vl) : ((SQ a b c d).map fun os => evA GG (run GG FL 19) (.acons (.attr (.var 0) 3) (.acons (.var 1) .anil)) [some cw, some (Law.iv 6)] (os ++ [])) = ((SQ a b c d).map fun os => (.ok [.tup (([2048, 1024, 512, 256, 128, 64, 32, 16, 8, 4, 2, 1] : List Nat).map Law.iv), Law.iv 6] (os ++ []) : R (List Vl))) := by kernel_rfl
theorem kwf (a b c d : T3) (x y : Option Vl) (u0 : Vl) : ((SQ a b c d).map fun os => wfH (os ++ []).length (os ++ [])) = ((SQ a b c d).map fun os => (true : Bool)) := by kernel_rfl
theorem tU1 (a b c d : T3) (x y : Option Vl) (u0 : Vl) : ∀ os ∈ SQ a b c d, evS G5 LOW (.set 2 (.th (.disp (.acons (.lamc 46 (.call 40 (.acons (.mk 0 (.acons (.int 24) (.acons (.bif .tuple (.acons (.fz (.comp [5] (.n 5) (.range (.acons (.int 12) .anil)) .noe (.bin .shl (.int 1) (.var 5)))) .anil)) .anil))) (.acons (.int 6) .anil)))) .anil)))) [some (u0), x, none, y, none, none] (os ++ []) = (.ok (.nx [some (u0), x, some (.ref os.length), y, none, none]) (os ++ [.lst [.str [116, 111, 108, 100]]]) : R Oc) := fun os ho => by
  have kmk' := all1 (kmk a b c d x y u0) os ho
  have kw0' := all1 (kw0 a b c d x y u0) os ho
  have kw1' := all1 (kw1 a b c d x y u0) os ho
  have kw2' := all1 (kw2 a b c d x y u0) os ho
  have kw3' := all1 (kw3 a b c d x y u0) os ho
  have kwf' := all1 (kwf a b c d x y u0) os ho
  rw [List.append_nil] at *
  generalize os = h at *
  obtain ⟨X, sp⟩ := q_wordsin (n := 17) (h := h) [2048, 1024, 512, 256, 128, 64, 32, 16, 8, 4, 2, 1] 6 (by decide) kwf' (by decide +kernel)
  have s3 : evS GG (run GG FL 19) (.ret (.bif .tuple (.acons (.call 27 (.acons (.attr (.var 0) 3) (.acons (.var 1) .anil))) .anil))) [some cw, some (Law.iv 6)] h = .ok (.rt (.tup X)) h := by
    show bnd (bnd (bnd (bnd (evA GG (run GG FL 19) (.acons (.attr (.var 0) 3) (.acons (.var 1) .anil)) [some cw, some (Law.iv 6)] h) fun xs h => run GG FL 19 27 xs h) fun x h => bnd (R.ok [] h) fun xs h => R.ok (x :: xs) h) fun xs h => lift (bifV .tuple h xs) h) _ = _
    rw [kw3', bnd_ok']
    have sp' : run GG FL 19 27 [.tup (([2048, 1024, 512, 256, 128, 64, 32, 16, 8, 4, 2, 1] : List Nat).map Law.iv), Law.iv 6] h = .ok (.lst X) h := sp
    rw [sp']
    rfl
  have e1 : LOW 40 [cw, Law.iv 6] h = .ok (.tup X) h := run_rt2 (d := f40) rfl rfl (seq_step kw0' (seq_step kw1' (seq_step kw2' s3))) (Nat.le_refl _)
  have e2 : evE G5 LOW (.call 40 (.acons (.mk 0 (.acons (.int 24) (.acons (.bif .tuple (.acons (.fz (.comp [5] (.n 5) (.range (.acons (.int 12) .anil)) .noe (.bin .shl (.int 1) (.var 5)))) .anil)) .anil))) (.acons (.int 6) .anil))) [some (u0), x, none, y, none, none] h = .ok (.tup X) h := by
    show bnd (evA G5 LOW (.acons (.mk 0 (.acons (.int 24) (.acons (.bif .tuple (.acons (.fz (.comp [5] (.n 5) (.range (.acons (.int 12) .anil)) .noe (.bin .shl (.int 1) (.var 5)))) .anil)) .anil))) (.acons (.int 6) .anil)) [some (u0), x, none, y, none, none] h) (fun xs h => LOW 40 xs h) = _
    rw [kmk', bnd_ok']
    exact e1
  exact disp_step (met_fine (M := met46) rfl rfl e2)
end Err
set_option Elab.async false
set_option linter.all false
set_option maxRecDepth 100000
set_option maxHeartbeats 0
namespace Err
open Law Mi
theorem none_turn {os : Hh} {P P' : T3} {s : Nat} {u : Vl} (j : Vl) (r : run2 GG LOW FH 5 47 [.ref os.length] (os ++ [pb P]) = .ok (.bl true) (os ++ [pb P'])) : turnC G5 LOW (.n 4) [4] (.sm (.not (.callg 47 (.acons (.var 3) .anil)))) (.int 1) [some u, some (iv s), none, some (.ref os.length), none, none] j (os ++ [pb P]) = .ok none (os ++ [pb P']) := by
  unfold turnC
  simp only [tgV, wipeE, List.set_cons_zero, List.set_cons_succ, putE, evC, evE, evA, List.getElem?_cons_zero, List.getElem?_cons_succ, bnd_ok', lift_some, r, tru_bl, Bool.not_true, truth]
theorem turn (ns : List Int) (ts : List T3) (s : Nat) (x y : Option Vl) (hl : ts.length ≤ 3) : ∃ env1 P y', tgV (.n 1) (iv s) [some (.scr (ns.map .int)), x, none, y, none, none] = some env1 ∧ evS G5 LOW (.seq (.set 3 (.call 43 (.acons (.var 0) (.acons (.var 1) .anil)))) (.ifs (.cmp .ne (.fz (.comp [4] (.n 4) (.range (.acons (.int 4) .anil)) (.sm (.not (.callg 47 (.acons (.var 3) .anil)))) (.int 1))) (.fz (.disp .anil))) (.ret (.bl false)) .skip)) env1 (ts.map pb) = .ok (.nx [some (.scr (ns.map .int)), some (iv s), none, y', none, none]) (ts.map pb ++ [pb P]) := by
  obtain ⟨a, b, c, ho⟩ := sp_of hl
  obtain ⟨P, e1⟩ := q_vatP (h := ts.map pb) ns s
  obtain ⟨P1, r1⟩ := right (P := P) ho
  obtain ⟨P2, r2⟩ := right (P := P1) ho
  obtain ⟨P3, r3⟩ := right (P := P2) ho
  obtain ⟨P4, r4⟩ := right (P := P3) ho
  refine ⟨_, P4, some (.ref (ts.map pb).length), rfl, ?_⟩
  have s1 : evS G5 LOW (.set 3 (.call 43 (.acons (.var 0) (.acons (.var 1) .anil)))) [some (.scr (ns.map .int)), some (iv s), none, y, none, none] (ts.map pb) = .ok (.nx [some (.scr (ns.map .int)), some (iv s), none, some (.ref (ts.map pb).length), none, none]) (ts.map pb ++ [pb P]) := by
    simp only [evS, evE, evA, List.getElem?_cons_zero, List.getElem?_cons_succ, putE, List.set_cons_zero, List.set_cons_succ, bnd_ok', lift_some, e1]
  refine seq_step s1 ?_
  generalize ts.map pb = os at *
  have c := comp4 (none_turn (s := s) (u := .scr (ns.map .int)) (iv 0) r1) (none_turn (iv 1) r2) (none_turn (iv 2) r3) (none_turn (iv 3) r4)
  have f : evF G5 LOW (.comp [4] (.n 4) (.range (.acons (.int 4) .anil)) (.sm (.not (.callg 47 (.acons (.var 3) .anil)))) (.int 1)) [some (.scr (ns.map .int)), some (iv s), none, some (.ref os.length), none, none] (os ++ [pb P]) = .ok [] (os ++ [pb P4]) := c
  show bnd (bnd (bnd (evF G5 LOW (.comp [4] (.n 4) (.range (.acons (.int 4) .anil)) (.sm (.not (.callg 47 (.acons (.var 3) .anil)))) (.int 1)) [some (.scr (ns.map .int)), some (iv s), none, some (.ref os.length), none, none] (os ++ [pb P])) fun xs h => R.ok (Vl.lst xs) h) _) _ = _
  rw [f]
  rfl
theorem kU2 (a b c d : T3) (x y : Option Vl) (u0 : Vl) : ((SQ a b c d).map fun os => evS G5 LOW (.ex (.mth .append (.var 2) (.acons (.lamc 46 (.call 40 (.acons (.mk 0 (.acons (.int 24) (.acons (.bif .tuple (.acons (.fz (.comp [5] (.n 5) (.range (.acons (.int 13) .anil)) .noe (.bin .shl (.int 1) (.var 5)))) .anil)) .anil))) (.acons (.int 6) .anil)))) .anil))) [some (u0), x, some (.ref os.length), y, none, none] (os ++ [.lst [.str [116, 111, 108, 100]]])) = ((SQ a b c d).map fun os => (.ok (.nx [some (u0), x, some (.ref os.length), y, none, none]) (os ++ [.lst [.str [116, 111, 108, 100], .tup [.str [114, 97, 105, 115, 101, 100], .str [109, 97, 110, 121, 32, 52, 48, 57, 54]]]]) : R Oc)) := by kernel_rfl
theorem tU2 (a b c d : T3) (x y : Option Vl) (u0 : Vl) : ∀ os ∈ SQ a b c d,  evS G5 LOW (.ex (.mth .append (.var 2) (.acons (.lamc 46 (.call 40 (.acons (.mk 0 (.acons (.int 24) (.acons (.bif .tuple (.acons (.fz (.comp [5] (.n 5) (.range (.acons (.int 13) .anil)) .noe (.bin .shl (.int 1) (.var 5)))) .anil)) .anil))) (.acons (.int 6) .anil)))) .anil))) [some (u0), x, some (.ref os.length), y, none, none] (os ++ [.lst [.str [116, 111, 108, 100]]]) = (.ok (.nx [some (u0), x, some (.ref os.length), y, none, none]) (os ++ [.lst [.str [116, 111, 108, 100], .tup [.str [114, 97, 105, 115, 101, 100], .str [109, 97, 110, 121, 32, 52, 48, 57, 54]]]]) : R Oc) := fun os ho => all1 (kU2 a b c d x y u0) os ho
theorem kU3 (a b c d : T3) (x y : Option Vl) (u0 : Vl) : ((SQ a b c d).map fun os => evS G5 LOW (.ret (.and (.cmp .eq (.var 2) (.fz (.disp (.acons (.str [116, 111, 108, 100]) (.acons (.tup (.acons (.str [114, 97, 105, 115, 101, 100]) (.acons (.str [109, 97, 110, 121, 32, 52, 48, 57, 54]) .anil))) .anil))))) (.cmp .eq (.gl 3) (.int 4096)))) [some (u0), x, some (.ref os.length), y, none, none] (os ++ [.lst [.str [116, 111, 108, 100], .tup [.str [114, 97, 105, 115, 101, 100], .str [109, 97, 110, 121, 32, 52, 48, 57, 54]]]])) = ((SQ a b c d).map fun os => (.ok (.rt (.bl true)) (os ++ [.lst [.str [116, 111, 108, 100], .tup [.str [114, 97, 105, 115, 101, 100], .str [109, 97, 110, 121, 32, 52, 48, 57, 54]]]]) : R Oc)) := by kernel_rfl
theorem tU3 (a b c d : T3) (x y : Option Vl) (u0 : Vl) : ∀ os ∈ SQ a b c d,  evS G5 LOW (.ret (.and (.cmp .eq (.var 2) (.fz (.disp (.acons (.str [116, 111, 108, 100]) (.acons (.tup (.acons (.str [114, 97, 105, 115, 101, 100]) (.acons (.str [109, 97, 110, 121, 32, 52, 48, 57, 54]) .anil))) .anil))))) (.cmp .eq (.gl 3) (.int 4096)))) [some (u0), x, some (.ref os.length), y, none, none] (os ++ [.lst [.str [116, 111, 108, 100], .tup [.str [114, 97, 105, 115, 101, 100], .str [109, 97, 110, 121, 32, 52, 48, 57, 54]]]]) = (.ok (.rt (.bl true)) (os ++ [.lst [.str [116, 111, 108, 100], .tup [.str [114, 97, 105, 115, 101, 100], .str [109, 97, 110, 121, 32, 52, 48, 57, 54]]]]) : R Oc) := fun os ho => all1 (kU3 a b c d x y u0) os ho
theorem fin_law (a b c d : T3) : ∀ os ∈ SQ a b c d, fin true 0 (.bl true) (os ++ [.lst [.str [116, 111, 108, 100], .tup [.str [114, 97, 105, 115, 101, 100], .str [109, 97, 110, 121, 32, 52, 48, 57, 54]]]]) = .ok (.bl true) [] :=
  all1 (by kernel_rfl)
end Err
set_option Elab.async false
set_option linter.all false
set_option maxRecDepth 100000
set_option maxHeartbeats 0
namespace Err
open Law Mi
theorem _root_.Law.hlaw : ∀ ns : List Int, ns.length ≤ 63 → ∃ h', run2 GG LOW FH 6 48 [.scr (ns.map .int)] [] = .ok (.bl true) h' := by
  intro ns _
  obtain ⟨x, y, ts, l1, l4, c0⟩ := pails (G := G5) (b := (.seq (.set 3 (.call 43 (.acons (.var 0) (.acons (.var 1) .anil)))) (.ifs (.cmp .ne (.fz (.comp [4] (.n 4) (.range (.acons (.int 4) .anil)) (.sm (.not (.callg 47 (.acons (.var 3) .anil)))) (.int 1))) (.fz (.disp .anil))) (.ret (.bl false)) .skip))) (ns := ns) (fun x y => [some (.scr (ns.map .int)), x, none, y, none, none]) rfl (fun _ _ => rfl) (turn ns)
  obtain ⟨a, b, c, d, ho⟩ := sq_of l1 l4
  generalize ts.map pb = os at c0 ho
  obtain ⟨u0, hu⟩ : ∃ u, u = Vl.scr (ns.map .int) := ⟨_, rfl⟩
  rw [← hu] at c0 ⊢
  rw [← List.append_nil os] at c0
  have c1 := tU1 a b c d x y u0 os ho
  have c2 := tU2 a b c d x y u0 os ho
  have c3 := tU3 a b c d x y u0 os ho
  have cF := fin_law a b c d os ho
  have e : evS G5 LOW f48.body ([some u0] ++ List.replicate 5 none) [] = .ok (.rt (.bl true)) (os ++ [.lst [.str [116, 111, 108, 100], .tup [.str [114, 97, 105, 115, 101, 100], .str [109, 97, 110, 121, 32, 52, 48, 57, 54]]]]) := seq_step c0 (seq_step c1 (seq_step c2 ( c3)))
  refine ⟨[], ?_⟩
  show endF true 0 (evS G5 LOW f48.body ([some u0] ++ List.replicate 5 none) []) = _
  rw [e]
  exact cF
end Err
set_option Elab.async false
set_option linter.all false
set_option maxRecDepth 100000
set_option maxHeartbeats 0
namespace Law
open PySem PySem.Spec PyProof.Rows L2 Mi PySem.W
end Law
open PySem PySem.Spec PyProof.Rows L2 Mi Law PySem.W
theorem PySem.Challenge.cw_ownchecks_k12_errors_of_counts_holds : PySem.Challenge.rw_ownchecks_k12_errors_of_counts.Holds := by
  w_on; o_law; k_head; (case hw => w_witness2)
  k_fill
  refine walk_g (l := PySem.Challenge.rw_ownchecks_k12_errors_of_counts) (n := 63) (k := 4 * 20 + 4 * 6) (CX := fun w => L2.CX PySem.Challenge.rw_ownchecks_k12_errors_of_counts.prog w) rfl (by decide) rfl ⟨rfl, by decide, by decide⟩ (fun w h Y => PySem.W.km_in_of Y) lms ?TB ?F (fun _ _ _ _ _ h => by obtain ⟨_, _, _, _, _, _, _, _, _, _, _, _, z⟩ := h; exact z.elim)
  case TB =>
    intro w
    refine' tw_tb (l := [(Str.ofString "_law_right", _, _), (Str.ofString "law", _, _)]) ?tw
    case tw =>
      show AllTw _ _ [(Str.ofString "_law_right", _, _), (Str.ofString "law", _, _)]
      refine' And.intro (And.intro (tab_mk ?ntw1 ?ltw1 ?rtw1 ?ctw1 ?vtw1) (And.intro ?ztw1 ?ftw1)) ?_; (case ntw1 => k_is); (case ltw1 => k_is); (case rtw1 => rfl); (case ctw1 => k_is); (case vtw1 => rfl); (case ztw1 => kernel_rfl); (case ftw1 => kernel_rfl)
      refine' And.intro (And.intro (tab_mk ?ntw2 ?ltw2 ?rtw2 ?ctw2 ?vtw2) (And.intro ?ztw2 ?ftw2)) ?_; (case ntw2 => k_is); (case ltw2 => k_is); (case rtw2 => rfl); (case ctw2 => k_is); (case vtw2 => rfl); (case ztw2 => kernel_rfl); (case ftw2 => kernel_rfl)
      exact True.intro
  case F =>
    intro w mg fa h csT Y KX G hmg hcs
    refine' law_endX (tab := tab) (kds := kds) (cs := cs) (kr := krs) (ats := ats) (er := ers) (ls := lms) (N2 := 20) (n := 6) (lf := 48) KX G hmg (fun f t e => AllSx.get f t sall e) (show tab[48]? = _ from rfl) ?mA ?mE ?mC ?mN (lm_ok (by decide +kernel)) ?mI ?mU hcs hlaw
    case mI =>
      refine' tw_in (l := [(Str.ofString "_law_right", _, _), (Str.ofString "law", _, _)]) (q := PySem.Challenge.rw_ownchecks_k12_errors_of_counts.prog) ?tw
      case tw =>
        show AllTw _ _ [(Str.ofString "_law_right", _, _), (Str.ofString "law", _, _)]
        refine' And.intro (And.intro (tab_mk ?ntw3 ?ltw3 ?rtw3 ?ctw3 ?vtw3) (And.intro ?ztw3 ?ftw3)) ?_; (case ntw3 => k_is); (case ltw3 => k_is); (case rtw3 => rfl); (case ctw3 => k_is); (case vtw3 => rfl); (case ztw3 => kernel_rfl); (case ftw3 => kernel_rfl)
        refine' And.intro (And.intro (tab_mk ?ntw4 ?ltw4 ?rtw4 ?ctw4 ?vtw4) (And.intro ?ztw4 ?ftw4)) ?_; (case ntw4 => k_is); (case ltw4 => k_is); (case rtw4 => rfl); (case ctw4 => k_is); (case vtw4 => rfl); (case ztw4 => kernel_rfl); (case ftw4 => kernel_rfl)
        exact True.intro
    case mU =>
      refine' tw_un (l := [(Str.ofString "_law_right", _, _), (Str.ofString "law", _, _)]) (q := PySem.Challenge.rw_ownchecks_k12_errors_of_counts.prog) ?tw ?ap
      case tw =>
        show AllTw _ _ [(Str.ofString "_law_right", _, _), (Str.ofString "law", _, _)]
        refine' And.intro (And.intro (tab_mk ?ntw5 ?ltw5 ?rtw5 ?ctw5 ?vtw5) (And.intro ?ztw5 ?ftw5)) ?_; (case ntw5 => k_is); (case ltw5 => k_is); (case rtw5 => rfl); (case ctw5 => k_is); (case vtw5 => rfl); (case ztw5 => kernel_rfl); (case ftw5 => kernel_rfl)
        refine' And.intro (And.intro (tab_mk ?ntw6 ?ltw6 ?rtw6 ?ctw6 ?vtw6) (And.intro ?ztw6 ?ftw6)) ?_; (case ntw6 => k_is); (case ltw6 => k_is); (case rtw6 => rfl); (case ctw6 => k_is); (case vtw6 => rfl); (case ztw6 => kernel_rfl); (case ftw6 => kernel_rfl)
        exact True.intro
      case ap => decide
    case mA =>
      refine' Exists.intro [_] (And.intro ?mK (And.intro ?mO ?mT))
      case mK =>
        show AllKF _ _ [⟨Str.ofString "Code", [(Str.ofString "own_basis", 0), (Str.ofString "own_length", 1)], 2⟩]
        refine' And.intro (KF.mk ?a1 ?a2 (L2.SCls.mk ?b1 ?b2 ?b3 ?b4) ?a3 ?a4 ?a5 ?a6 ?a7 ?a9 ?a8 ?t1 ?t2 ?t3 ?t4 ?t5 ?u0 ?u1 ?u2 ?u3 ?u4 ?u5 ?u6 ?sl) ?_
        (case a1 => k_is)
        (case a2 => k_is)
        (case b1 => k_is)
        (case b2 => k_is)
        (case b3 => k_is)
        (case b4 => k_is)
        (case a3 => k_is)
        (case a4 => k_is)
        (case a5 => k_is)
        (case a6 => k_is)
        (case a7 => k_is)
        (case a9 => k_is)
        (case a8 => k_is)
        (case t1 => k_is)
        (case t2 => k_is)
        (case t3 => k_is)
        (case t4 => k_is)
        (case t5 => k_is)
        (case u0 => k_is)
        (case u1 => k_is)
        (case u2 => k_is)
        (case u3 => k_is)
        (case u4 => k_is)
        (case u5 => k_is)
        (case u6 => k_is)
        (case sl =>
          show AllSl _ _ [(Str.ofString "own_basis", 0), (Str.ofString "own_length", 1)]
          refine' And.intro (Exists.intro _ (L2.Slt.mk ?za ?zb ?zc ?zd ?ze (by decide))) ?_
          (case za => k_is)
          (case zb => k_is)
          (case zc => k_is)
          (case zd => k_is)
          (case ze => k_is)
          refine' And.intro (Exists.intro _ (L2.Slt.mk ?za ?zb ?zc ?zd ?ze (by decide))) ?_
          (case za => k_is)
          (case zb => k_is)
          (case zc => k_is)
          (case zd => k_is)
          (case ze => k_is)
          exact True.intro)
        exact True.intro
      case mO => exact ow_one
      case mT =>
        show AllDc _ _ [⟨f0, Str.ofString "is_whole", Str.ofString "is_whole", topS 11, .mod⟩, ⟨f1, Str.ofString "is_from", Str.ofString "is_from", topS 12, .mod⟩, ⟨f2, Str.ofString "is_word_in", Str.ofString "is_word_in", topS 13, .mod⟩, ⟨f3, Str.ofString "are_words_in", Str.ofString "are_words_in", topS 14, .mod⟩, ⟨f4, Str.ofString "weight_in", Str.ofString "weight_in", topS 15, .mod⟩, ⟨f5, Str.ofString "product_in", Str.ofString "product_in", topS 16, .mod⟩, ⟨f6, Str.ofString "head_of", Str.ofString "head_of", topS 17, .mod⟩, ⟨f7, Str.ofString "has_bit", Str.ofString "has_bit", topS 18, .mod⟩, ⟨f8, Str.ofString "word_in", Str.ofString "word_in", topS 19, .mod⟩, ⟨f9, Str.ofString "remainder_in", Str.ofString "remainder_in", topS 20, .mod⟩, ⟨f10, Str.ofString "with_word", Str.ofString "with_word", topS 21, .mod⟩, ⟨f11, Str.ofString "basis_in", Str.ofString "basis_in", topS 22, .mod⟩, ⟨f12, Str.ofString "heads_in", Str.ofString "heads_in", topS 23, .mod⟩, ⟨f13, Str.ofString "free_in", Str.ofString "free_in", topS 24, .mod⟩, ⟨f14, Str.ofString "span_in", Str.ofString "span_in", topS 25, .mod⟩, ⟨f15, Str.ofString "checks_in", Str.ofString "checks_in", topS 26, .mod⟩, ⟨f16, Str.ofString "require_length", Str.ofString "require_length", topS 27, .mod⟩, ⟨f17, Str.ofString "require_word", Str.ofString "require_word", topS 28, .mod⟩, ⟨f18, Str.ofString "require_words", Str.ofString "require_words", topS 29, .mod⟩, ⟨f19, Str.ofString "require_code", Str.ofString "require_code", topS 32, .mod⟩, ⟨f20, Str.ofString "choose", Str.ofString "choose", topS 42, .mod⟩, ⟨f21, Str.ofString "signs_in", Str.ofString "signs_in", topS 43, .mod⟩, ⟨f22, Str.ofString "transformed_in", Str.ofString "transformed_in", topS 44, .mod⟩, ⟨f23, Str.ofString "counts_by", Str.ofString "counts_by", topS 45, .mod⟩, ⟨f24, Str.ofString "divided", Str.ofString "divided", topS 46, .mod⟩, ⟨f25, Str.ofString "counts_in", Str.ofString "counts_in", topS 47, .mod⟩, ⟨f26, Str.ofString "coset_in", Str.ofString "coset_in", topS 48, .mod⟩, ⟨f27, Str.ofString "words_in", Str.ofString "words_in", topS 49, .mod⟩, ⟨f28, Str.ofString "least_in", Str.ofString "least_in", topS 50, .mod⟩, ⟨f29, Str.ofString "is_power", Str.ofString "is_power", topS 51, .mod⟩, ⟨f30, Str.ofString "dual_or_weight_in", Str.ofString "dual_or_weight_in", topS 52, .mod⟩, ⟨f31, Str.ofString "are_counts", Str.ofString "are_counts", topS 53, .mod⟩, ⟨f32, Str.ofString "require_counts", Str.ofString "require_counts", topS 54, .mod⟩, ⟨f33, Str.ofString "require_weight", Str.ofString "require_weight", topS 55, .mod⟩, ⟨f34, Str.ofString "signs", Str.ofString "signs", topS 56, .mod⟩, ⟨f35, Str.ofString "counts_of", Str.ofString "counts_of", topS 57, .mod⟩, ⟨f36, Str.ofString "dual_counts", Str.ofString "dual_counts", topS 58, .mod⟩, ⟨f37, Str.ofString "coset_counts", Str.ofString "coset_counts", topS 59, .mod⟩, ⟨f38, Str.ofString "transformed", Str.ofString "transformed", topS 60, .mod⟩, ⟨f39, Str.ofString "least_weight", Str.ofString "least_weight", topS 61, .mod⟩, ⟨f40, Str.ofString "words_of_weight", Str.ofString "words_of_weight", topS 62, .mod⟩, ⟨f41, Str.ofString "zero_lots", Str.ofString "zero_lots", topS 63, .mod⟩, ⟨f42, Str.ofString "dual_or_weight", Str.ofString "dual_or_weight", topS 64, .mod⟩, ⟨f43, Str.ofString "_law_urn", Str.ofString "_law_urn", topS 66, .mod⟩, ⟨f44, Str.ofString "_law_ball", Str.ofString "_law_ball", topS 67, .mod⟩, ⟨f45, Str.ofString "_law_taken", Str.ofString "_law_taken", topS 68, .mod⟩, ⟨f46, Str.ofString "_law_met", Str.ofString "_law_met", topS 69, .mod⟩, ⟨f47, Str.ofString "_law_right", Str.ofString "_law_right", topS 70, .mod⟩, ⟨f48, Str.ofString "law", Str.ofString "law", topS 71, .mod⟩, ⟨f49, Str.ofString "__init__", Str.ofString "Code.__init__", inClass (topS 31) 1, .ini 0⟩, ⟨f50, Str.ofString "length", Str.ofString "Code.length", inClass (topS 31) 2, .prp 0⟩, ⟨f51, Str.ofString "basis", Str.ofString "Code.basis", inClass (topS 31) 3, .prp 0⟩, ⟨f52, Str.ofString "dimension", Str.ofString "Code.dimension", inClass (topS 31) 4, .prp 0⟩, ⟨f53, Str.ofString "__eq__", Str.ofString "Code.__eq__", inClass (topS 31) 5, .eqm 0⟩, ⟨f54, Str.ofString "__str__", Str.ofString "Code.__str__", inClass (topS 31) 6, .oth 0⟩]
        refine' And.intro (Exists.intro _ (dkMod ?ns (Exists.intro _ (fun_mk ?l ?c ?k)))) ?_; (case ns => k_is); (case l => k_is); (case c => k_is); (case k => k_is)
        refine' And.intro (Exists.intro _ (dkMod ?ns (Exists.intro _ (fun_mk ?l ?c ?k)))) ?_; (case ns => k_is); (case l => k_is); (case c => k_is); (case k => k_is)
        refine' And.intro (Exists.intro _ (dkMod ?ns (Exists.intro _ (fun_mk ?l ?c ?k)))) ?_; (case ns => k_is); (case l => k_is); (case c => k_is); (case k => k_is)
        refine' And.intro (Exists.intro _ (dkMod ?ns (Exists.intro _ (fun_mk ?l ?c ?k)))) ?_; (case ns => k_is); (case l => k_is); (case c => k_is); (case k => k_is)
        refine' And.intro (Exists.intro _ (dkMod ?ns (Exists.intro _ (fun_mk ?l ?c ?k)))) ?_; (case ns => k_is); (case l => k_is); (case c => k_is); (case k => k_is)
        refine' And.intro (Exists.intro _ (dkMod ?ns (Exists.intro _ (fun_mk ?l ?c ?k)))) ?_; (case ns => k_is); (case l => k_is); (case c => k_is); (case k => k_is)
        refine' And.intro (Exists.intro _ (dkMod ?ns (Exists.intro _ (fun_mk ?l ?c ?k)))) ?_; (case ns => k_is); (case l => k_is); (case c => k_is); (case k => k_is)
        refine' And.intro (Exists.intro _ (dkMod ?ns (Exists.intro _ (fun_mk ?l ?c ?k)))) ?_; (case ns => k_is); (case l => k_is); (case c => k_is); (case k => k_is)
        refine' And.intro (Exists.intro _ (dkMod ?ns (Exists.intro _ (fun_mk ?l ?c ?k)))) ?_; (case ns => k_is); (case l => k_is); (case c => k_is); (case k => k_is)
        refine' And.intro (Exists.intro _ (dkMod ?ns (Exists.intro _ (fun_mk ?l ?c ?k)))) ?_; (case ns => k_is); (case l => k_is); (case c => k_is); (case k => k_is)
        refine' And.intro (Exists.intro _ (dkMod ?ns (Exists.intro _ (fun_mk ?l ?c ?k)))) ?_; (case ns => k_is); (case l => k_is); (case c => k_is); (case k => k_is)
        refine' And.intro (Exists.intro _ (dkMod ?ns (Exists.intro _ (fun_mk ?l ?c ?k)))) ?_; (case ns => k_is); (case l => k_is); (case c => k_is); (case k => k_is)
        refine' And.intro (Exists.intro _ (dkMod ?ns (Exists.intro _ (fun_mk ?l ?c ?k)))) ?_; (case ns => k_is); (case l => k_is); (case c => k_is); (case k => k_is)
        refine' And.intro (Exists.intro _ (dkMod ?ns (Exists.intro _ (fun_mk ?l ?c ?k)))) ?_; (case ns => k_is); (case l => k_is); (case c => k_is); (case k => k_is)
        refine' And.intro (Exists.intro _ (dkMod ?ns (Exists.intro _ (fun_mk ?l ?c ?k)))) ?_; (case ns => k_is); (case l => k_is); (case c => k_is); (case k => k_is)
        refine' And.intro (Exists.intro _ (dkMod ?ns (Exists.intro _ (fun_mk ?l ?c ?k)))) ?_; (case ns => k_is); (case l => k_is); (case c => k_is); (case k => k_is)
        refine' And.intro (Exists.intro _ (dkMod ?ns (Exists.intro _ (fun_mk ?l ?c ?k)))) ?_; (case ns => k_is); (case l => k_is); (case c => k_is); (case k => k_is)
        refine' And.intro (Exists.intro _ (dkMod ?ns (Exists.intro _ (fun_mk ?l ?c ?k)))) ?_; (case ns => k_is); (case l => k_is); (case c => k_is); (case k => k_is)
        refine' And.intro (Exists.intro _ (dkMod ?ns (Exists.intro _ (fun_mk ?l ?c ?k)))) ?_; (case ns => k_is); (case l => k_is); (case c => k_is); (case k => k_is)
        refine' And.intro (Exists.intro _ (dkMod ?ns (Exists.intro _ (fun_mk ?l ?c ?k)))) ?_; (case ns => k_is); (case l => k_is); (case c => k_is); (case k => k_is)
        refine' And.intro (Exists.intro _ (dkMod ?ns (Exists.intro _ (fun_mk ?l ?c ?k)))) ?_; (case ns => k_is); (case l => k_is); (case c => k_is); (case k => k_is)
        refine' And.intro (Exists.intro _ (dkMod ?ns (Exists.intro _ (fun_mk ?l ?c ?k)))) ?_; (case ns => k_is); (case l => k_is); (case c => k_is); (case k => k_is)
        refine' And.intro (Exists.intro _ (dkMod ?ns (Exists.intro _ (fun_mk ?l ?c ?k)))) ?_; (case ns => k_is); (case l => k_is); (case c => k_is); (case k => k_is)
        refine' And.intro (Exists.intro _ (dkMod ?ns (Exists.intro _ (fun_mk ?l ?c ?k)))) ?_; (case ns => k_is); (case l => k_is); (case c => k_is); (case k => k_is)
        refine' And.intro (Exists.intro _ (dkMod ?ns (Exists.intro _ (fun_mk ?l ?c ?k)))) ?_; (case ns => k_is); (case l => k_is); (case c => k_is); (case k => k_is)
        refine' And.intro (Exists.intro _ (dkMod ?ns (Exists.intro _ (fun_mk ?l ?c ?k)))) ?_; (case ns => k_is); (case l => k_is); (case c => k_is); (case k => k_is)
        refine' And.intro (Exists.intro _ (dkMod ?ns (Exists.intro _ (fun_mk ?l ?c ?k)))) ?_; (case ns => k_is); (case l => k_is); (case c => k_is); (case k => k_is)
        refine' And.intro (Exists.intro _ (dkMod ?ns (Exists.intro _ (fun_mk ?l ?c ?k)))) ?_; (case ns => k_is); (case l => k_is); (case c => k_is); (case k => k_is)
        refine' And.intro (Exists.intro _ (dkMod ?ns (Exists.intro _ (fun_mk ?l ?c ?k)))) ?_; (case ns => k_is); (case l => k_is); (case c => k_is); (case k => k_is)
        refine' And.intro (Exists.intro _ (dkMod ?ns (Exists.intro _ (fun_mk ?l ?c ?k)))) ?_; (case ns => k_is); (case l => k_is); (case c => k_is); (case k => k_is)
        refine' And.intro (Exists.intro _ (dkMod ?ns (Exists.intro _ (fun_mk ?l ?c ?k)))) ?_; (case ns => k_is); (case l => k_is); (case c => k_is); (case k => k_is)
        refine' And.intro (Exists.intro _ (dkMod ?ns (Exists.intro _ (fun_mk ?l ?c ?k)))) ?_; (case ns => k_is); (case l => k_is); (case c => k_is); (case k => k_is)
        refine' And.intro (Exists.intro _ (dkMod ?ns (Exists.intro _ (fun_mk ?l ?c ?k)))) ?_; (case ns => k_is); (case l => k_is); (case c => k_is); (case k => k_is)
        refine' And.intro (Exists.intro _ (dkMod ?ns (Exists.intro _ (fun_mk ?l ?c ?k)))) ?_; (case ns => k_is); (case l => k_is); (case c => k_is); (case k => k_is)
        refine' And.intro (Exists.intro _ (dkMod ?ns (Exists.intro _ (fun_mk ?l ?c ?k)))) ?_; (case ns => k_is); (case l => k_is); (case c => k_is); (case k => k_is)
        refine' And.intro (Exists.intro _ (dkMod ?ns (Exists.intro _ (fun_mk ?l ?c ?k)))) ?_; (case ns => k_is); (case l => k_is); (case c => k_is); (case k => k_is)
        refine' And.intro (Exists.intro _ (dkMod ?ns (Exists.intro _ (fun_mk ?l ?c ?k)))) ?_; (case ns => k_is); (case l => k_is); (case c => k_is); (case k => k_is)
        refine' And.intro (Exists.intro _ (dkMod ?ns (Exists.intro _ (fun_mk ?l ?c ?k)))) ?_; (case ns => k_is); (case l => k_is); (case c => k_is); (case k => k_is)
        refine' And.intro (Exists.intro _ (dkMod ?ns (Exists.intro _ (fun_mk ?l ?c ?k)))) ?_; (case ns => k_is); (case l => k_is); (case c => k_is); (case k => k_is)
        refine' And.intro (Exists.intro _ (dkMod ?ns (Exists.intro _ (fun_mk ?l ?c ?k)))) ?_; (case ns => k_is); (case l => k_is); (case c => k_is); (case k => k_is)
        refine' And.intro (Exists.intro _ (dkMod ?ns (Exists.intro _ (fun_mk ?l ?c ?k)))) ?_; (case ns => k_is); (case l => k_is); (case c => k_is); (case k => k_is)
        refine' And.intro (Exists.intro _ (dkMod ?ns (Exists.intro _ (fun_mk ?l ?c ?k)))) ?_; (case ns => k_is); (case l => k_is); (case c => k_is); (case k => k_is)
        refine' And.intro (Exists.intro _ (dkMod ?ns (Exists.intro _ (fun_mk ?l ?c ?k)))) ?_; (case ns => k_is); (case l => k_is); (case c => k_is); (case k => k_is)
        refine' And.intro (Exists.intro _ (dkMod ?ns (Exists.intro _ (fun_mk ?l ?c ?k)))) ?_; (case ns => k_is); (case l => k_is); (case c => k_is); (case k => k_is)
        refine' And.intro (Exists.intro _ (dkMod ?ns (Exists.intro _ (fun_mk ?l ?c ?k)))) ?_; (case ns => k_is); (case l => k_is); (case c => k_is); (case k => k_is)
        refine' And.intro (Exists.intro _ (dkMod ?ns (Exists.intro _ (fun_mk ?l ?c ?k)))) ?_; (case ns => k_is); (case l => k_is); (case c => k_is); (case k => k_is)
        refine' And.intro (Exists.intro _ (dkMod ?ns (Exists.intro _ (fun_mk ?l ?c ?k)))) ?_; (case ns => k_is); (case l => k_is); (case c => k_is); (case k => k_is)
        refine' And.intro (Exists.intro _ (dkMod ?ns (Exists.intro _ (fun_mk ?l ?c ?k)))) ?_; (case ns => k_is); (case l => k_is); (case c => k_is); (case k => k_is)
        refine' And.intro (Exists.intro _ (dkMod ?ns (Exists.intro _ (fun_mk ?l ?c ?k)))) ?_; (case ns => k_is); (case l => k_is); (case c => k_is); (case k => k_is)
        refine' And.intro (Exists.intro _ (dkIni rfl (L2.Mk.mk ?m1 ?m2 ?m3 ?m4) (Exists.intro _ (fun_mk ?l ?c ?k)))) ?_; (case m1 => k_is); (case m2 => k_is); (case m3 => k_is); (case m4 => k_is); (case l => k_is); (case c => k_is); (case k => k_is)
        refine' And.intro (Exists.intro _ (dkPrp rfl ?m1 ?m2 ?m3 ?m4 (Exists.intro _ (fun_mk ?l ?c ?k)))) ?_; (case m1 => k_is); (case m2 => k_is); (case m3 => k_is); (case m4 => k_is); (case l => k_is); (case c => k_is); (case k => k_is)
        refine' And.intro (Exists.intro _ (dkPrp rfl ?m1 ?m2 ?m3 ?m4 (Exists.intro _ (fun_mk ?l ?c ?k)))) ?_; (case m1 => k_is); (case m2 => k_is); (case m3 => k_is); (case m4 => k_is); (case l => k_is); (case c => k_is); (case k => k_is)
        refine' And.intro (Exists.intro _ (dkPrp rfl ?m1 ?m2 ?m3 ?m4 (Exists.intro _ (fun_mk ?l ?c ?k)))) ?_; (case m1 => k_is); (case m2 => k_is); (case m3 => k_is); (case m4 => k_is); (case l => k_is); (case c => k_is); (case k => k_is)
        refine' And.intro (Exists.intro _ (dkEqm rfl ?m1 ?m2 (Exists.intro _ (fun_mk ?l ?c ?k)))) ?_; (case m1 => k_is); (case m2 => k_is); (case l => k_is); (case c => k_is); (case k => k_is)
        refine' And.intro (Exists.intro _ (dkOth rfl ?m1 (Exists.intro _ (fun_mk ?l ?c ?k)))) ?_; (case m1 => k_is); (case l => k_is); (case c => k_is); (case k => k_is)
        exact True.intro
    case mE =>
      refine' Exists.intro [_, _, _, _, _] (And.intro ?mX (xm_all ?mM))
      case mX =>
        show AllXF _ _ _ [⟨Str.ofString "InvalidNumber", some (Str.ofString "given")⟩, ⟨Str.ofString "InvalidWord", none⟩, ⟨Str.ofString "InvalidCode", none⟩, ⟨Str.ofString "InvalidCounts", none⟩, ⟨Str.ofString "TooMany", some (Str.ofString "limit")⟩]
        refine' And.intro (XF.mk ?zzns (And.intro (And.intro (XfC.mk ?zzx1 ?zzx2 ?zzx3 ?zzx4) ?zzx5) (sup_mk (EB.mk PySem.F.excBase_IndexError PySem.F.store_IndexError PySem.W.kxs_IndexError) ?zzq ?zzov ?zzhi ?zzti ?zzl1 ?zzl2 ?zzl3 ?zzv2 ?zzfl ?zzl4 ?zzl5 ?zztx ?zzsu ?zzsB ?zzsC ?zzop ?zztp ?zzsa ?zztk ?zzhh ?zzbE ?zztC ?zzkC))) ?_
        (case zzns => k_is); (case zzx1 => k_is); (case zzx2 => k_is); (case zzx3 => k_is); (case zzx4 => k_is); (case zzx5 => k_is); (case zzq => kernel_rfl); (case zzov => kernel_rfl); (case zzhi => k_is); (case zzti => k_is); (case zzl1 => k_is); (case zzl2 => k_is); (case zzl3 => k_is); (case zzv2 => rfl); (case zzfl => kernel_rfl); (case zzl4 => k_is); (case zzl5 => k_is); (case zztx => exact SupTxt.mk ⟨_, _, _, _, _, _, _, _, _, _, rfl, by decide⟩ ⟨_, rfl, rfl⟩ (fun _ _ _ _ _ _ _ _ _ _ => rfl) rfl rfl rfl (by decide) (by decide) (by decide) (by decide) (by decide) (by decide) (by decide) (by decide) (by decide) (by decide)); (case zzsu => ks_is); (case zzsB => k_is); (case zzsC => k_is); (case zzop => k_is); (case zztp => kernel_rfl); (case zzsa => k_is); (case zztk => k_is); (case zzhh => k_is); (case zzbE => k_is); (case zztC => k_is); (case zzkC => k_is)
        refine' And.intro (XF.mk ?zzns (Exists.intro _ (Exists.intro _ (Exists.intro _ (Exists.intro _ (And.intro PySem.F.excBase_ValueError (And.intro ?zzq (And.intro ?zzkp (And.intro ?zzsb ?zzty))))))))) ?_
        (case zzns => k_is); (case zzq => k_exc); (case zzkp => k_is); (case zzsb => k_is); (case zzty => k_is)
        refine' And.intro (XF.mk ?zzns (Exists.intro _ (Exists.intro _ (Exists.intro _ (Exists.intro _ (And.intro PySem.F.excBase_ValueError (And.intro ?zzq (And.intro ?zzkp (And.intro ?zzsb ?zzty))))))))) ?_
        (case zzns => k_is); (case zzq => k_exc); (case zzkp => k_is); (case zzsb => k_is); (case zzty => k_is)
        refine' And.intro (XF.mk ?zzns (Exists.intro _ (Exists.intro _ (Exists.intro _ (Exists.intro _ (And.intro PySem.F.excBase_ValueError (And.intro ?zzq (And.intro ?zzkp (And.intro ?zzsb ?zzty))))))))) ?_
        (case zzns => k_is); (case zzq => k_exc); (case zzkp => k_is); (case zzsb => k_is); (case zzty => k_is)
        refine' And.intro (XF.mk ?zzns (And.intro (And.intro (XfC.mk ?zzx1 ?zzx2 ?zzx3 ?zzx4) ?zzx5) (sup_mk (EB.mk PySem.F.excBase_OverflowError PySem.F.store_OverflowError PySem.W.kxs_OverflowError) ?zzq ?zzov ?zzhi ?zzti ?zzl1 ?zzl2 ?zzl3 ?zzv2 ?zzfl ?zzl4 ?zzl5 ?zztx ?zzsu ?zzsB ?zzsC ?zzop ?zztp ?zzsa ?zztk ?zzhh ?zzbE ?zztC ?zzkC))) ?_
        (case zzns => k_is); (case zzx1 => k_is); (case zzx2 => k_is); (case zzx3 => k_is); (case zzx4 => k_is); (case zzx5 => k_is); (case zzq => kernel_rfl); (case zzov => kernel_rfl); (case zzhi => k_is); (case zzti => k_is); (case zzl1 => k_is); (case zzl2 => k_is); (case zzl3 => k_is); (case zzv2 => rfl); (case zzfl => kernel_rfl); (case zzl4 => k_is); (case zzl5 => k_is); (case zztx => exact SupTxt.mk ⟨_, _, _, _, _, _, _, _, _, _, rfl, by decide⟩ ⟨_, rfl, rfl⟩ (fun _ _ _ _ _ _ _ _ _ _ => rfl) rfl rfl rfl (by decide) (by decide) (by decide) (by decide) (by decide) (by decide) (by decide) (by decide) (by decide) (by decide)); (case zzsu => ks_is); (case zzsB => k_is); (case zzsC => k_is); (case zzop => k_is); (case zztp => kernel_rfl); (case zzsa => k_is); (case zztk => k_is); (case zzhh => k_is); (case zzbE => k_is); (case zztC => k_is); (case zzkC => k_is)
        exact True.intro
      case mM =>
        refine' And.intro ?xr ?_
        case xr =>
          refine' And.intro ?xa ?_; (case xa => kernel_rfl)
          refine' And.intro ?xa ?_; (case xa => kernel_rfl)
          refine' And.intro ?xa ?_; (case xa => kernel_rfl)
          refine' And.intro ?xa ?_; (case xa => kernel_rfl)
          refine' And.intro ?xa ?_; (case xa => kernel_rfl)
          exact True.intro
        refine' And.intro ?xr ?_
        case xr =>
          refine' And.intro ?xa ?_; (case xa => kernel_rfl)
          refine' And.intro ?xa ?_; (case xa => kernel_rfl)
          refine' And.intro ?xa ?_; (case xa => kernel_rfl)
          refine' And.intro ?xa ?_; (case xa => kernel_rfl)
          refine' And.intro ?xa ?_; (case xa => kernel_rfl)
          exact True.intro
        refine' And.intro ?xr ?_
        case xr =>
          refine' And.intro ?xa ?_; (case xa => kernel_rfl)
          refine' And.intro ?xa ?_; (case xa => kernel_rfl)
          refine' And.intro ?xa ?_; (case xa => kernel_rfl)
          refine' And.intro ?xa ?_; (case xa => kernel_rfl)
          refine' And.intro ?xa ?_; (case xa => kernel_rfl)
          exact True.intro
        refine' And.intro ?xr ?_
        case xr =>
          refine' And.intro ?xa ?_; (case xa => kernel_rfl)
          refine' And.intro ?xa ?_; (case xa => kernel_rfl)
          refine' And.intro ?xa ?_; (case xa => kernel_rfl)
          refine' And.intro ?xa ?_; (case xa => kernel_rfl)
          refine' And.intro ?xa ?_; (case xa => kernel_rfl)
          exact True.intro
        refine' And.intro ?xr ?_
        case xr =>
          refine' And.intro ?xa ?_; (case xa => kernel_rfl)
          refine' And.intro ?xa ?_; (case xa => kernel_rfl)
          refine' And.intro ?xa ?_; (case xa => kernel_rfl)
          refine' And.intro ?xa ?_; (case xa => kernel_rfl)
          refine' And.intro ?xa ?_; (case xa => kernel_rfl)
          exact True.intro
        exact True.intro
    case mC =>
      show AllV _ cs
      unfold cs
      refine' And.intro (CV.int ?ns) ?_; (case ns => k_is)
      refine' And.intro (CV.int ?ns) ?_; (case ns => k_is)
      refine' And.intro (CV.int ?ns) ?_; (case ns => k_is)
      refine' And.intro (CV.int ?ns) ?_; (case ns => k_is)
      refine' And.intro (CV.int ?ns) ?_; (case ns => k_is)
      refine' And.intro (CV.int ?ns) ?_; (case ns => k_is)
      refine' And.intro (CV.int ?ns) ?_; (case ns => k_is)
      refine' And.intro (CV.str ?ns) ?_; (case ns => k_is)
      refine' And.intro (CV.str ?ns) ?_; (case ns => k_is)
      refine' And.intro (CV.str ?ns) ?_; (case ns => k_is)
      refine' And.intro (CV.str ?ns) ?_; (case ns => k_is)
      exact True.intro
    case mN =>
      show AllN _ bNames
      unfold bNames
      repeat (refine' And.intro ?ns ?_; (case ns => k_is))
      exact True.intro
