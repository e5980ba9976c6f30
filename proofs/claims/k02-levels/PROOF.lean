import PyProof.Rows.All
import Wide.All
import OpenK.AllK
import Wide.FinOn
import HandS.ForMost
import HandS.SetBool
import HandS.TupAny
import HandS.TupMul
import HandS.Wide
import PyProof.NeKinds
import HandS.Conv
import HandS.IsInst
import HandS.Text
import HandS.Words
import HandS.Records
import PyProof.Draws
import PyProof.EnumMake
import HandS.Zip0
import HandS.Iter
import HandS.List
import HandS.Zip
import HandS.Walk
import HandS.Comp
import HandS.Dict
import HandS.More
import PyProof.Rows.SetFrom
import HandS.Set
import HandS.SetFor
import HandS.Strs
import HandS.Defaults
import HandS.Ends
import HandS.HeadHook1
import HandS.HeadHook2
import KE.KStateDown
import HandS.ForExc
import HandS.Head0
import HandS.Head1
import HandS.Head2
import HandS.HeadEnd
import PySem.Challenge.RW_keyloud_k02_levels_at_moments
section
set_option linter.all false
/-! KLSem: a small definitional interpreter for the part of Python that the program and the laws use. Plain Lean, no kit. -/
namespace KL
abbrev Txt := List Nat

/-- data: by value, but ref n (a thing of the store) -/
inductive D where
  | non | bl (b : Bool) | int (i : Int) | str (s : Txt)
  | tup (xs : List D) | lst (xs : List D)
  | dS (ks : List Txt) (vs : List D) | dT (ks vs : List D)
  | ref (n : Nat) | scr (ns : List Int)
  deriving Inhabited

/-- a thing of the store -/
inductive SO where
  | lst (xs : List D) | dS (ks : List Txt) (vs : List D) | dT (ks vs : List D)
  | ins (c : Nat) (fs : List D) | dead
  deriving Inhabited
abbrev Store := List SO
abbrev Env := List (Option D)

mutual
/-- no ref within -/
def pureD : D → Bool
  | .non => true | .bl _ => true | .int _ => true | .str _ => true
  | .tup xs => pureDs xs | .lst xs => pureDs xs
  | .dS _ vs => pureDs vs | .dT ks vs => pureDs ks && pureDs vs
  | .ref _ => false | .scr _ => false
def pureDs : List D → Bool
  | [] => true
  | x :: xs => pureD x && pureDs xs
end

inductive Res (α : Type) where
  | ok (a : α) (S : Store)
  | exc (c : Nat) (p : List D) (S : Store)
abbrev Out (α : Type) := Option (Res α)
def bnd {α β : Type} (r : Out α) (f : α → Store → Out β) : Out β :=
  match r with
  | some (.ok a S) => f a S
  | some (.exc c p S) => some (.exc c p S)
  | none => none
abbrev CallF := Nat → List D → Store → Out D

/-! ### values: ==, keys -/
def eqLs (f : D → D → Option Bool) : List D → List D → Option Bool
  | [], [] => some true
  | x :: xs, y :: ys => match f x y, eqLs f xs ys with
    | some a, some b => some (a && b)
    | _, _ => none
  | [], _ :: _ => some false
  | _ :: _, [] => some false
/-- ==, to a depth -/
def eqN : Nat → D → D → Option Bool
  | 0, _, _ => none
  | n + 1, x, y => match x, y with
    | .non, .non => some true
    | .bl a, .bl b => some (a == b)
    | .bl a, .int j => some ((if a then 1 else 0) == j)
    | .int i, .bl b => some (i == (if b then 1 else 0))
    | .int i, .int j => some (i == j)
    | .str s, .str t => some (s == t)
    | .tup xs, .tup ys => eqLs (eqN n) xs ys
    | .lst xs, .lst ys => eqLs (eqN n) xs ys
    | .non, .bl _ => some false | .non, .int _ => some false | .non, .str _ => some false | .non, .tup _ => some false | .non, .lst _ => some false
    | .bl _, .non => some false | .bl _, .str _ => some false | .bl _, .tup _ => some false | .bl _, .lst _ => some false
    | .int _, .non => some false | .int _, .str _ => some false | .int _, .tup _ => some false | .int _, .lst _ => some false
    | .str _, .non => some false | .str _, .bl _ => some false | .str _, .int _ => some false | .str _, .tup _ => some false | .str _, .lst _ => some false
    | .tup _, .non => some false | .tup _, .bl _ => some false | .tup _, .int _ => some false | .tup _, .str _ => some false | .tup _, .lst _ => some false
    | .lst _, .non => some false | .lst _, .bl _ => some false | .lst _, .int _ => some false | .lst _, .str _ => some false | .lst _, .tup _ => some false
    | _, _ => none
def eqD (x y : D) : Option Bool := eqN 40 x y

/-- a list in the store as a list -/
def view (S : Store) (d : D) : D := match d with
  | .ref n => match S[n]? with
    | some (.lst xs) => .lst xs
    | some (.dS ks vs) => .dS ks vs
    | some (.dT ks vs) => .dT ks vs
    | _ => .ref n
  | d => d
def seqOf (S : Store) (d : D) : Option (List D) := match view S d with
  | .tup xs => some xs
  | .lst xs => some xs
  | _ => none
def lstOf (S : Store) (d : D) : Option (List D) := match view S d with
  | .lst xs => some xs
  | _ => none

/-- keys of a dict with tuple keys: the first that is equal -/
def keyIx (k : D) : List D → Option (Option Nat)
  | [] => some none
  | x :: xs => match eqN 20 x k with
    | some true => some (some 0)
    | some false => match keyIx k xs with
      | some (some i) => some (some (i + 1))
      | r => r
    | none => none
def keyIxS (k : Txt) : List Txt → Option Nat
  | [] => none
  | x :: xs => if x = k then some 0 else (keyIxS k xs).map (· + 1)
/-- what may be a key of such a dict -/
def keyOkN : Nat → D → Bool
  | _, .bl _ => true
  | _, .int _ => true
  | _, .str _ => true
  | n + 1, .tup xs => xs.all (keyOkN n)
  | _, _ => false
def isKey : D → Bool
  | .tup xs => xs.all (keyOkN 5)
  | _ => false

/-! ### numbers, texts -/
def lineN : Nat := 16777216
def small64 (i : Int) : Bool := decide (-18446744073709551616 < i) && decide (i < 18446744073709551616)
def mulOk (i j : Int) : Bool := small64 i || small64 j || decide (i.natAbs.log2 + j.natAbs.log2 < 1000000)
def divOk (j : Int) : Bool := decide (0 < j) && decide (j.natAbs.log2 < 9000)
def digitsN (n : Nat) : Txt := (Nat.toDigits 10 n).map Char.toNat
def strInt (i : Int) : Txt := match i with
  | .ofNat n => digitsN n
  | .negSucc n => 45 :: digitsN (n + 1)

inductive BO | add | sub | mul | fdiv | mod | pow
  deriving DecidableEq, Inhabited
def repL {α : Type} (xs : List α) : Nat → List α
  | 0 => []
  | n + 1 => xs ++ repL xs n
def binD (op : BO) (x y : D) (S : Store) : Option D := match op with
  | .add => match x, y with
    | .int i, .int j => some (.int (i + j))
    | .str s, .str t => if s.length + t.length ≤ lineN then some (.str (s ++ t)) else none
    | .tup xs, .tup ys => if xs.length + ys.length ≤ lineN then some (.tup (xs ++ ys)) else none
    | x, y => match lstOf S x, lstOf S y with
      | some xs, some ys => if xs.length + ys.length ≤ lineN then some (.lst (xs ++ ys)) else none
      | _, _ => none
  | .sub => match x, y with
    | .int i, .int j => some (.int (i - j))
    | _, _ => none
  | .mul => match x, y with
    | .int i, .int j => if mulOk i j then some (.int (i * j)) else none
    | .lst xs, .int j => if decide (0 ≤ j) && decide (j ≤ 1000) && decide (xs.length * j.toNat ≤ lineN) then some (.lst (repL xs j.toNat)) else none
    | .tup xs, .int j => if decide (2 ≤ j) && decide (j ≤ 1000) && decide (xs.length ≤ 1000) && !xs.isEmpty then some (.tup (repL xs j.toNat)) else none
    | _, _ => none
  | .fdiv => match x, y with
    | .int i, .int j => if divOk j then some (.int (i / j)) else none
    | _, _ => none
  | .mod => match x, y with
    | .int i, .int j => if decide (0 < j) then some (.int (i % j)) else none
    | _, _ => none
  | .pow => match x, y with
    | .int i, .int j => if decide (0 ≤ j) && decide (j ≤ 1000000) && decide (i.natAbs < 18446744073709551616) then some (.int (i ^ j.toNat)) else none
    | _, _ => none

/-- i of a thing of n items, by Python's rule -/
def ixOf (n : Nat) (i : Int) : Option Nat := if 0 ≤ i then (if i < n then some i.toNat else none) else if -(n : Int) ≤ i then some (i + n).toNat else none
def cutIx (n d : Nat) : Option Int → Nat
  | none => d
  | some i => if i < 0 then (i + n).toNat else min i.toNat n
def cutL {α : Type} (xs : List α) (lo hi : Option Int) : List α := (xs.drop (cutIx xs.length 0 lo)).take (cutIx xs.length xs.length hi - cutIx xs.length 0 lo)

/-- x[y] -/
def idxD (x y : D) (S : Store) : Option D := match view S x with
  | .tup xs => match y with
    | .int i => match ixOf xs.length i with
      | some j => xs[j]?
      | none => none
    | _ => none
  | .lst xs => match y with
    | .int i => match ixOf xs.length i with
      | some j => xs[j]?
      | none => none
    | _ => none
  | .dS ks vs => match y with
    | .str s => match keyIxS s ks with
      | some j => vs[j]?
      | none => none
    | _ => none
  | .dT ks vs => if isKey y then match keyIx y ks with
      | some (some j) => vs[j]?
      | _ => none
    else none
  | .scr ns => match y with
    | .int i => match ixOf ns.length i with
      | some j => (ns[j]?).map .int
      | none => none
    | _ => none
  | _ => none
/-- x[lo:hi] -/
def cutD (x : D) (lo hi : Option Int) (S : Store) : Option D := match view S x with
  | .tup xs => some (.tup (cutL xs lo hi))
  | .lst xs => some (.lst (cutL xs lo hi))
  | _ => none

inductive CO | eq | ne | lt | le | gt | ge | isin | notin | isN | notN
  deriving DecidableEq, Inhabited
def memL (x : D) : List D → Option Bool
  | [] => some false
  | y :: ys => match eqD y x, memL x ys with
    | some a, some b => some (a || b)
    | _, _ => none
/-- one sign within a text -/
def inD (x y : D) (S : Store) : Option Bool := match view S y with
  | .tup ys => memL x ys
  | .lst ys => memL x ys
  | .dS ks _ => match x with
    | .str s => some (keyIxS s ks).isSome
    | _ => none
  | .dT ks _ => if isKey x then match keyIx x ks with
      | some o => some o.isSome
      | none => none
    else none
  | .str t => match x with
    | .str [c] => some (t.contains c)
    | _ => none
  | _ => none
def cmpD (op : CO) (x y : D) (S : Store) : Option Bool := match op with
  | .eq => eqD (view S x) (view S y)
  | .ne => match eqD (view S x) (view S y) with
    | some b => some (!b)
    | none => none
  | .lt => match x, y with
    | .int i, .int j => some (decide (i < j))
    | _, _ => none
  | .le => match x, y with
    | .int i, .int j => some (decide (i ≤ j))
    | _, _ => none
  | .gt => match x, y with
    | .int i, .int j => some (decide (j < i))
    | _, _ => none
  | .ge => match x, y with
    | .int i, .int j => some (decide (j ≤ i))
    | _, _ => none
  | .isin => inD x y S
  | .notin => match inD x y S with
    | some b => some (!b)
    | none => none
  | .isN => match y, x with
    | .non, .non => some true
    | .non, _ => some false
    | _, _ => none
  | .notN => match y, x with
    | .non, .non => some false
    | .non, _ => some true
    | _, _ => none
/-- truth -/
def truD (x : D) (S : Store) : Option Bool := match view S x with
  | .non => some false
  | .bl b => some b
  | .int i => some (i != 0)
  | .tup xs => some (!xs.isEmpty)
  | .lst xs => some (!xs.isEmpty)
  | _ => none

/-! ### built-in functions -/
inductive BF | len | abs | min2 | max2 | minL | maxL | any | all | intF | strF | listF | tupF | sortSet | sortS | isInt | isBool | isStr | isTup
  deriving DecidableEq, Inhabited
def intsOf : List D → Option (List Int)
  | [] => some []
  | .int i :: r => (intsOf r).map (i :: ·)
  | _ => none
def blsOf : List D → Option (List Bool)
  | [] => some []
  | .bl i :: r => (blsOf r).map (i :: ·)
  | _ => none
def strsOf : List D → Option (List Txt)
  | [] => some []
  | .str i :: r => (strsOf r).map (i :: ·)
  | _ => none
def insI (x : Int) : List Int → List Int
  | [] => [x]
  | y :: ys => if x < y then x :: y :: ys else if x = y then y :: ys else y :: insI x ys
/-- the ascending list of the numbers, each once -/
def sortI : List Int → List Int
  | [] => []
  | x :: xs => insI x (sortI xs)
def ltT : Txt → Txt → Bool
  | [], [] => false
  | [], _ :: _ => true
  | _ :: _, [] => false
  | x :: xs, y :: ys => if x = y then ltT xs ys else decide (x < y)
def insT (x : Txt) : List Txt → List Txt
  | [] => [x]
  | y :: ys => if ltT y x then y :: insT x ys else x :: y :: ys
def sortT : List Txt → List Txt
  | [] => []
  | x :: xs => insT x (sortT xs)
def minI : Int → List Int → Int
  | x, [] => x
  | x, y :: ys => minI (if y < x then y else x) ys
def maxI : Int → List Int → Int
  | x, [] => x
  | x, y :: ys => maxI (if y > x then y else x) ys
def digit? (c : Nat) : Option Nat := if 48 ≤ c ∧ c ≤ 57 then some (c - 48) else none
def intText (s : Txt) : Option Int := match s with
  | [a] => match digit? a with
    | some x => some (x : Int)
    | none => none
  | [a, b] => match digit? a, digit? b with
    | some x, some y => some ((10 * x + y : Nat) : Int)
    | _, _ => none
  | _ => none
def bfD (f : BF) (xs : List D) (S : Store) : Option D := match f, xs with
  | .len, [x] => match view S x with
    | .str s => if s.length ≤ lineN then some (.int s.length) else none
    | .tup xs => some (.int xs.length)
    | .lst xs => some (.int xs.length)
    | .scr ns => some (.int ns.length)
    | _ => none
  | .abs, [.int i] => some (.int (if i < 0 then -i else i))
  | .min2, [.int i, .int j] => some (.int (if j < i then j else i))
  | .max2, [.int i, .int j] => some (.int (if j > i then j else i))
  | .minL, [x] => match lstOf S x with
    | some xs => match intsOf xs with
      | some (i :: is) => some (.int (minI i is))
      | _ => none
    | none => none
  | .maxL, [x] => match lstOf S x with
    | some xs => match intsOf xs with
      | some (i :: is) => some (.int (maxI i is))
      | _ => none
    | none => none
  | .any, [x] => match lstOf S x with
    | some xs => match blsOf xs with
      | some bs => some (.bl (bs.any id))
      | none => none
    | none => none
  | .all, [x] => match lstOf S x with
    | some xs => match blsOf xs with
      | some bs => some (.bl (bs.all id))
      | none => none
    | none => none
  | .intF, [.int i] => some (.int i)
  | .intF, [.bl b] => some (.int (if b then 1 else 0))
  | .strF, [.int i] => if decide (0 ≤ i) && decide (i.natAbs.log2 < 1920) then some (.str (strInt i)) else none
  | .listF, [x] => match view S x with
    | .tup xs => some (.lst xs)
    | .lst xs => some (.lst xs)
    | .dS ks _ => some (.lst (ks.map .str))
    | _ => none
  | .tupF, [x] => match view S x with
    | .tup xs => some (.tup xs)
    | .lst xs => some (.tup xs)
    | _ => none
  | .sortSet, [x] => match lstOf S x with
    | some xs => match intsOf xs with
      | some is => if is.length ≤ 4000 then (if (sortI is).length < 64 then some (.lst ((sortI is).map .int)) else none) else none
      | none => none
    | none => none
  | .sortS, [x] => match lstOf S x with
    | some xs => match strsOf xs with
      | some is => if is.length < 64 then some (.lst ((sortT is).map .str)) else none
      | none => none
    | none => none
  | .isInt, [x] => match x with
    | .int _ => some (.bl true)
    | .bl _ => some (.bl true)
    | .non => some (.bl false) | .str _ => some (.bl false) | .tup _ => some (.bl false) | .lst _ => some (.bl false)
    | _ => none
  | .isBool, [x] => match x with
    | .bl _ => some (.bl true)
    | .int _ => some (.bl false) | .non => some (.bl false) | .str _ => some (.bl false) | .tup _ => some (.bl false) | .lst _ => some (.bl false)
    | _ => none
  | .isStr, [x] => match x with
    | .str _ => some (.bl true)
    | .bl _ => some (.bl false) | .int _ => some (.bl false) | .non => some (.bl false) | .tup _ => some (.bl false) | .lst _ => some (.bl false)
    | _ => none
  | .isTup, [x] => match x with
    | .tup _ => some (.bl true)
    | .bl _ => some (.bl false) | .int _ => some (.bl false) | .non => some (.bl false) | .str _ => some (.bl false) | .lst _ => some (.bl false)
    | _ => none
  | _, _ => none
/-- lo, lo + c, .. : n of them -/
def rangeL (lo c : Int) : Nat → List D
  | 0 => []
  | n + 1 => .int lo :: rangeL (lo + c) c n
def rngN (i j c : Int) : Nat := if 0 < c then ((j - i + c - 1) / c).toNat else ((i - j - c - 1) / (-c)).toNat
def b62 (i : Int) : Bool := decide (-4611686018427387904 ≤ i) && decide (i < 4611686018427387904)
/-- range(..): start, step, number -/
def rngD : List D → Option (Int × Int × Nat)
  | [.int j] => if b62 j then some (0, 1, j.toNat) else none
  | [.int i, .int j] => if b62 i && b62 j then some (i, 1, (j - i).toNat) else none
  | [.int i, .int j, .int c] => if b62 i && b62 j && (decide (c = 1) || decide (c = -1)) then some (i, c, if c = 1 then (j - i).toNat else (i - j).toNat) else none
  | _ => none

/-! ### methods by which nothing is changed -/
inductive MF | get1 | get2 | index | join | split
  deriving DecidableEq, Inhabited
def joinT (s : Txt) : List Txt → Txt
  | [] => []
  | [x] => x
  | x :: y :: r => x ++ s ++ joinT s (y :: r)
/-- split by one sign -/
def splitT (c : Nat) : Txt → List Txt
  | [] => [[]]
  | x :: xs => if x = c then [] :: splitT c xs else match splitT c xs with
    | [] => [[x]]
    | y :: ys => (x :: y) :: ys
def sumLen : List Txt → Nat
  | [] => 0
  | x :: xs => x.length + 1 + sumLen xs
def firstIx (x : D) : List D → Option Nat
  | [] => none
  | y :: ys => match eqD y x with
    | some true => some 0
    | some false => (firstIx x ys).map (· + 1)
    | none => none
/-- o.get(k, df) -/
def getOr (o k df : D) (S : Store) : Option D := match view S o with
    | .dS ks vs => match k with
      | .str s => match keyIxS s ks with
        | some j => vs[j]?
        | none => some df
      | _ => none
    | .dT ks vs => if isKey k then match keyIx k ks with
        | some (some j) => vs[j]?
        | some none => some df
        | none => none
      else none
    | _ => none
def mfD (f : MF) (o : D) (xs : List D) (S : Store) : Option D := match f, xs with
  | .get1, [k] => getOr o k .non S
  | .get2, [k, d] => getOr o k d S
  | .index, [x] => match lstOf S o with
    | some ys => if ys.length ≤ lineN then match memL x ys, firstIx x ys with
      | some _, some j => some (.int j)
      | _, _ => none
      else none
    | none => none
  | .join, [x] => match o with
    | .str s => match lstOf S x with
      | some ys => match strsOf ys with
        | some ts => if sumLen ts + ts.length * s.length ≤ lineN then some (.str (joinT s ts)) else none
        | none => none
      | none => none
    | _ => none
  | .split, [x] => match o, x with
    | .str s, .str [c] => if s.length + 2 ≤ lineN then some (.lst ((splitT c s).map .str)) else none
    | _, _ => none
  | _, _ => none

/-! ### changes -/
def setS (S : Store) (n : Nat) (o : SO) : Store := S.set n o
def putS (ks : List Txt) (vs : List D) (k : Txt) (v : D) : List Txt × List D := match keyIxS k ks with
  | some j => (ks, vs.set j v)
  | none => (ks ++ [k], vs ++ [v])
def putT (ks vs : List D) (k v : D) : Option (List D × List D) := match keyIx k ks with
  | some (some j) => some (ks, vs.set j v)
  | some none => some (ks ++ [k], vs ++ [v])
  | none => none
/-- o[k] = v -/
def setItemD (o k v : D) (S : Store) : Option Store := match o with
  | .ref n => match S[n]? with
    | some (.lst xs) => match k with
      | .int i => match ixOf xs.length i with
        | some j => some (S.set n (.lst (xs.set j v)))
        | none => none
      | _ => none
    | some (.dS ks vs) => match k with
      | .str s => if ks.length < lineN then some (S.set n (.dS (putS ks vs s v).1 (putS ks vs s v).2)) else none
      | _ => none
    | some (.dT ks vs) => if isKey k && decide (ks.length < lineN) then match putT ks vs k v with
        | some (ks', vs') => some (S.set n (.dT ks' vs'))
        | none => none
      else none
    | _ => none
  | _ => none

def isLstRef (x : D) (S : Store) : Bool := match x with
  | .ref n => match S[n]? with
    | some (.lst _) => true
    | _ => false
  | _ => false
def nodupT : List Txt → Bool
  | [] => true
  | k :: ks => (keyIxS k ks).isNone && nodupT ks
def isDict (x : D) (S : Store) : Bool := match view S x with
  | .dS _ _ => true
  | .dT _ _ => true
  | _ => false
/-- of the kind that has the method -/
def mfOk (f : MF) (x : D) (S : Store) : Bool := match f with
  | .get1 => isDict x S
  | .get2 => isDict x S
  | .index => (lstOf S x).isSome
  | .join => match x with
    | .str _ => true
    | _ => false
  | .split => match x with
    | .str _ => true
    | _ => false

/-! ### syntax -/
mutual
/-- expressions; names by slots -/
inductive ME where
  | var (i : Nat) | gcon (g : Nat) | int (i : Int) | bl (b : Bool) | non | str (s : Txt)
  | tup (es : List ME) | lst (es : List ME)
  | newL (es : List ME) | newT | newS (ks : List Txt) (es : List ME) | dispS (ks : List Txt) (es : List ME)
  | bin (op : BO) (a b : ME) | neg (a : ME) | notE (a : ME)
  | cmp (op : CO) (a b : ME) | chain (op op' : CO) (a b c : ME)
  | andE (es : List ME) | orE (es : List ME) | ife (c : MQ) (a b : ME)
  | idx (a b : ME) | slc (a : ME) (lo hi : Option ME)
  | call (f : Nat) (es : List ME) | callB (f : BF) (es : List ME) | meth (f : MF) (o : ME) (es : List ME)
  | lrange (es : List ME) | trange (es : List ME) | sortSet (e : ME) | copyS (e : ME)
  | append (o e : ME) | pop (o : ME) | frz (e : ME)
  | comp (own : List Nat) (elt : ME) (tg : List Nat) (it : MI) (ifs : List MQ)
  | dcomp (own : List Nat) (k v : ME) (tg : List Nat) (it : MI) (ifs : List MQ)
/-- a test -/
inductive MQ where
  | v (e : ME) | and (qs : List MQ) | or (qs : List MQ) | not (q : MQ)
/-- what is walked -/
inductive MI where
  | it (e : ME) | rng (es : List ME) | zip (es : List ME) | enm (e : ME)
end
inductive MT where
  | name (i : Nat) | tup (ts : List MT) | sub (o k : ME)
inductive MS where
  | asg (t : MT) (e : ME) | expr (e : ME)
  | ifS (c : MQ) (a b : List MS) | whl (c : MQ) (b : List MS) | forS (t : MT) (it : MI) (b : List MS)
  | ret (e : ME) | retN | pass | brk | cont
  | raise (c : Nat) (es : List ME)

/-! ### running -/
def ok {α : Type} (a : α) (S : Store) : Out α := some (.ok a S)
def lift {α : Type} (o : Option α) (S : Store) : Out α := match o with
  | some a => ok a S
  | none => none
def appD (x y : D) (S : Store) : Out D := match x with
  | .ref n => match S[n]? with
    | some (.lst xs) => if xs.length < lineN then ok .non (S.set n (.lst (xs ++ [y]))) else none
    | _ => none
  | _ => none
def popD (x : D) (S : Store) : Out D := match x with
  | .ref n => match S[n]? with
    | some (.lst xs) => match xs.getLast? with
      | some y => ok y (S.set n (.lst xs.dropLast))
      | none => none
    | _ => none
  | _ => none
def frzD (x : D) (S : Store) : Out D := match x with
  | .ref n => match S[n]? with
    | some (.lst xs) => ok (.lst xs) (S.set n .dead)
    | some (.dS ks vs) => ok (.dS ks vs) (S.set n .dead)
    | some (.dT ks vs) => ok (.dT ks vs) (S.set n .dead)
    | _ => none
  | x => ok x S
/-- an error within is not carried -/
def noexc {α : Type} (r : Out α) : Out α := match r with
  | some (.exc _ _ _) => none
  | r => r
def zip2 : List D → List D → List D
  | x :: xs, y :: ys => .tup [x, y] :: zip2 xs ys
  | _, _ => []
def enumL : Nat → List D → List D
  | _, [] => []
  | n, x :: xs => .tup [.int n, x] :: enumL (n + 1) xs
/-- what zip walks: two lists, or two tuples -/
def zipD (S : Store) : List D → Option (List D)
  | [x, y] => match x, y with
    | .tup xs, .tup ys => some (zip2 xs ys)
    | .lst xs, .lst ys => some (zip2 xs ys)
    | _, _ => none
  | _ => none
def bindNs : List Nat → List D → Env → Option Env
  | [], [], ρ => some ρ
  | i :: is, d :: ds, ρ => bindNs is ds (ρ.set i (some d))
  | _, _, _ => none
/-- names := a value (one name), or its items -/
def bindTg (tg : List Nat) (d : D) (ρ : Env) : Option Env := match tg with
  | [i] => some (ρ.set i (some d))
  | is => match d with
    | .tup xs => bindNs is xs ρ
    | _ => none
def wipeE (ρ : Env) : List Nat → Env
  | [] => ρ
  | v :: vs => (wipeE ρ vs).set v none
/-- the items that a thing gives when it is walked -/
def walkD (S : Store) (d : D) : Option (List D) := match d with
  | .tup xs => some xs
  | .lst xs => some xs
  | .dT ks _ => some ks
  | .str s => some (s.map fun c => .str [c])
  | _ => none
def compL (tg : List Nat) (test : Env → Store → Out Bool) (elt : Env → Store → Out D) (ρ : Env) : List D → Store → Out (List D)
  | [], S => ok [] S
  | x :: xs, S => match bindTg tg x ρ with
    | none => none
    | some ρ' => bnd (noexc (test ρ' S)) fun b S1 =>
      if b then bnd (noexc (elt ρ' S1)) fun d S2 => bnd (compL tg test elt ρ xs S2) fun ds S3 => ok (d :: ds) S3
      else compL tg test elt ρ xs S1
def dcompL (tg : List Nat) (test : Env → Store → Out Bool) (k v : Env → Store → Out D) (ρ : Env) : List D → List Txt → List D → Store → Out (List Txt × List D)
  | [], ks, vs, S => ok (ks, vs) S
  | x :: xs, ks, vs, S => match bindTg tg x ρ with
    | none => none
    | some ρ' => bnd (noexc (test ρ' S)) fun b S1 =>
      if b then bnd (noexc (k ρ' S1)) fun dk S2 => bnd (noexc (v ρ' S2)) fun dv S3 => match dk with
        | .str s => dcompL tg test k v ρ xs (putS ks vs s dv).1 (putS ks vs s dv).2 S3
        | _ => none
      else dcompL tg test k v ρ xs ks vs S1
/-- the module's constants -/
abbrev GCon := Nat → Option D
def keysTxt (ks : List Txt) (vs : List D) : List Txt × List D := (ks.zip vs).foldl (fun p q => putS p.1 p.2 q.1 q.2) ([], [])
mutual
def evalE (G : GCon) (C : CallF) : ME → Env → Store → Out D
  | .var i, ρ, S => match ρ[i]? with
    | some (some d) => ok d S
    | _ => none
  | .gcon g, _, S => lift (G g) S
  | .int i, _, S => ok (.int i) S
  | .bl b, _, S => ok (.bl b) S
  | .non, _, S => ok .non S
  | .str s, _, S => ok (.str s) S
  | .tup es, ρ, S => bnd (evalEs G C es ρ S) fun ds S => ok (.tup ds) S
  | .lst es, ρ, S => bnd (evalEs G C es ρ S) fun ds S => ok (.lst ds) S
  | .newL es, ρ, S => bnd (evalEs G C es ρ S) fun ds S => ok (.ref S.length) (S ++ [.lst ds])
  | .newT, _, S => ok (.ref S.length) (S ++ [.dT [] []])
  | .newS ks es, ρ, S => bnd (evalEs G C es ρ S) fun ds S => if ds.length = ks.length then ok (.ref S.length) (S ++ [.dS (keysTxt ks ds).1 (keysTxt ks ds).2]) else none
  | .dispS ks es, ρ, S => bnd (evalEs G C es ρ S) fun ds S => if ds.length = ks.length then ok (.dS (keysTxt ks ds).1 (keysTxt ks ds).2) S else none
  | .bin op a b, ρ, S => bnd (evalE G C a ρ S) fun x S => bnd (evalE G C b ρ S) fun y S => lift (binD op x y S) S
  | .neg a, ρ, S => bnd (evalE G C a ρ S) fun x S => match x with
    | .int i => ok (.int (-i)) S
    | _ => none
  | .notE a, ρ, S => bnd (evalE G C a ρ S) fun x S => match x with
    | .bl b => ok (.bl (!b)) S
    | _ => none
  | .cmp op a b, ρ, S => bnd (evalE G C a ρ S) fun x S => bnd (evalE G C b ρ S) fun y S => match cmpD op x y S with
    | some r => ok (.bl r) S
    | none => none
  | .chain op op' a b c, ρ, S => bnd (evalE G C a ρ S) fun x S => bnd (evalE G C b ρ S) fun y S => match cmpD op x y S with
    | some true => bnd (evalE G C c ρ S) fun z S => match cmpD op' y z S with
      | some r => ok (.bl r) S
      | none => none
    | some false => ok (.bl false) S
    | none => none
  | .andE es, ρ, S => evalAnd G C es ρ S
  | .orE es, ρ, S => evalOr G C es ρ S
  | .ife c a b, ρ, S => bnd (evalT G C c ρ S) fun t S => if t then evalE G C a ρ S else evalE G C b ρ S
  | .idx a b, ρ, S => bnd (evalE G C a ρ S) fun x S => bnd (evalE G C b ρ S) fun y S => lift (idxD x y S) S
  | .slc a lo hi, ρ, S => bnd (evalE G C a ρ S) fun x S => bnd (evalO G C lo ρ S) fun l S => bnd (evalO G C hi ρ S) fun h S => lift (cutD x l h S) S
  | .call f es, ρ, S => bnd (evalEs G C es ρ S) fun ds S => C f ds S
  | .callB f es, ρ, S => bnd (evalEs G C es ρ S) fun ds S => lift (bfD f ds S) S
  | .meth f o es, ρ, S => bnd (evalE G C o ρ S) fun x S => if mfOk f x S then bnd (evalEs G C es ρ S) fun ds S => lift (mfD f x ds S) S else none
  | .lrange es, ρ, S => bnd (evalEs G C es ρ S) fun ds S => match rngD ds with
    | some (i, c, n) => if n ≤ 100000 then ok (.lst (rangeL i c n)) S else none
    | none => none
  | .trange es, ρ, S => bnd (evalEs G C es ρ S) fun ds S => match rngD ds with
    | some (i, c, n) => if n ≤ 100000 then ok (.tup (rangeL i c n)) S else none
    | none => none
  | .sortSet e, ρ, S => bnd (evalE G C e ρ S) fun d S => lift (bfD .sortSet [d] S) S
  | .copyS e, ρ, S => bnd (evalE G C e ρ S) fun d S => match view S d with
    | .dS ks vs => if nodupT ks then ok (.ref S.length) (S ++ [.dS ks vs]) else none
    | _ => none
  | .append o e, ρ, S => bnd (evalE G C o ρ S) fun x S => if isLstRef x S then bnd (evalE G C e ρ S) fun y S => appD x y S else none
  | .pop o, ρ, S => bnd (evalE G C o ρ S) fun x S => popD x S
  | .frz e, ρ, S => bnd (evalE G C e ρ S) fun x S => frzD x S
  | .comp own elt tg it ifs, ρ, S => bnd (evalI G C it ρ S) fun xs S =>
      bnd (compL tg (fun ρ S => evalTs G C ifs ρ S) (fun ρ S => evalE G C elt ρ S) (wipeE ρ own) xs S) fun ds S => if ds.length ≤ lineN then ok (.lst ds) S else none
  | .dcomp own k v tg it ifs, ρ, S => bnd (evalI G C it ρ S) fun xs S =>
      bnd (dcompL tg (fun ρ S => evalTs G C ifs ρ S) (fun ρ S => evalE G C k ρ S) (fun ρ S => evalE G C v ρ S) (wipeE ρ own) xs [] [] S) fun p S => if p.1.length ≤ lineN then ok (.dS p.1 p.2) S else none
def evalEs (G : GCon) (C : CallF) : List ME → Env → Store → Out (List D)
  | [], _, S => ok [] S
  | e :: es, ρ, S => bnd (evalE G C e ρ S) fun d S => bnd (evalEs G C es ρ S) fun ds S => ok (d :: ds) S
def evalO (G : GCon) (C : CallF) : Option ME → Env → Store → Out (Option Int)
  | none, _, S => ok none S
  | some e, ρ, S => bnd (evalE G C e ρ S) fun d S => match d with
    | .int i => ok (some i) S
    | _ => none
def evalAnd (G : GCon) (C : CallF) : List ME → Env → Store → Out D
  | [], _, _ => none
  | [e], ρ, S => evalE G C e ρ S
  | e :: es, ρ, S => bnd (evalE G C e ρ S) fun d S => match d with
    | .bl true => evalAnd G C es ρ S
    | .bl false => ok (.bl false) S
    | _ => none
def evalOr (G : GCon) (C : CallF) : List ME → Env → Store → Out D
  | [], _, _ => none
  | [e], ρ, S => evalE G C e ρ S
  | e :: es, ρ, S => bnd (evalE G C e ρ S) fun d S => match d with
    | .bl true => ok (.bl true) S
    | .bl false => evalOr G C es ρ S
    | _ => none
def evalT (G : GCon) (C : CallF) : MQ → Env → Store → Out Bool
  | .v e, ρ, S => bnd (evalE G C e ρ S) fun d S => lift (truD d S) S
  | .and es, ρ, S => evalTs G C es ρ S
  | .or es, ρ, S => evalTo G C es ρ S
  | .not a, ρ, S => bnd (evalT G C a ρ S) fun b S => ok (!b) S
def evalTs (G : GCon) (C : CallF) : List MQ → Env → Store → Out Bool
  | [], _, S => ok true S
  | e :: es, ρ, S => bnd (evalT G C e ρ S) fun b S => if b then evalTs G C es ρ S else ok false S
def evalTo (G : GCon) (C : CallF) : List MQ → Env → Store → Out Bool
  | [], _, S => ok false S
  | e :: es, ρ, S => bnd (evalT G C e ρ S) fun b S => if b then ok true S else evalTo G C es ρ S
def evalI (G : GCon) (C : CallF) : MI → Env → Store → Out (List D)
  | .it e, ρ, S => bnd (evalE G C e ρ S) fun d S => lift (walkD S d) S
  | .rng es, ρ, S => bnd (evalEs G C es ρ S) fun ds S => match rngD ds with
    | some (i, c, n) => ok (rangeL i c n) S
    | none => none
  | .zip es, ρ, S => bnd (evalEs G C es ρ S) fun ds S => lift (zipD S ds) S
  | .enm e, ρ, S => bnd (evalE G C e ρ S) fun d S => match d with
    | .tup xs => ok (enumL 0 xs) S
    | _ => none
end

/-! ### statements -/
inductive SR where
  | nx (ρ : Env) (S : Store) | ret (d : D) (S : Store) | brk (ρ : Env) (S : Store) | ct (ρ : Env) (S : Store) | exc (c : Nat) (p : List D) (ρ : Env) (S : Store)
def bndS {α : Type} (ρ : Env) (r : Out α) (f : α → Store → Option SR) : Option SR := match r with
  | some (.ok a S) => f a S
  | some (.exc c p S) => some (.exc c p ρ S)
  | none => none
mutual
def asgT (G : GCon) (C : CallF) : MT → D → Env → Store → Option SR
  | .name i, d, ρ, S => some (.nx (ρ.set i (some d)) S)
  | .tup ts, d, ρ, S => match d with
    | .tup ds => asgTs G C ts ds ρ S
    | _ => none
  | .sub o k, d, ρ, S => bndS ρ (evalE G C o ρ S) fun x S => bndS ρ (evalE G C k ρ S) fun y S => match setItemD x y d S with
    | some S' => some (.nx ρ S')
    | none => none
def asgTs (G : GCon) (C : CallF) : List MT → List D → Env → Store → Option SR
  | [], [], ρ, S => some (.nx ρ S)
  | t :: ts, d :: ds, ρ, S => match asgT G C t d ρ S with
    | some (.nx ρ' S') => asgTs G C ts ds ρ' S'
    | r => r
  | _, _, _, _ => none
end
def bigN : Nat := 2 ^ 4000
def loopW (test : Env → Store → Out Bool) (body : Env → Store → Option SR) : Nat → Env → Store → Option SR
  | 0, _, _ => none
  | n + 1, ρ, S => bndS ρ (test ρ S) fun b S1 => if b then match body ρ S1 with
      | some (.nx ρ' S') => loopW test body n ρ' S'
      | some (.ct ρ' S') => loopW test body n ρ' S'
      | some (.brk ρ' S') => some (.nx ρ' S')
      | r => r
    else some (.nx ρ S1)
def loopF (tgt : D → Env → Store → Option SR) (body : Env → Store → Option SR) : List D → Env → Store → Option SR
  | [], ρ, S => some (.nx ρ S)
  | x :: xs, ρ, S => match tgt x ρ S with
    | some (.nx ρ1 S1) => match body ρ1 S1 with
      | some (.nx ρ' S') => loopF tgt body xs ρ' S'
      | some (.ct ρ' S') => loopF tgt body xs ρ' S'
      | some (.brk ρ' S') => some (.nx ρ' S')
      | r => r
    | r => r
mutual
def exec (G : GCon) (C : CallF) : MS → Env → Store → Option SR
  | .asg t e, ρ, S => bndS ρ (evalE G C e ρ S) fun d S => asgT G C t d ρ S
  | .expr e, ρ, S => bndS ρ (evalE G C e ρ S) fun _ S => some (.nx ρ S)
  | .ifS c a b, ρ, S => bndS ρ (evalT G C c ρ S) fun t S => if t then execs G C a ρ S else execs G C b ρ S
  | .whl c b, ρ, S => loopW (fun ρ S => evalT G C c ρ S) (fun ρ S => execs G C b ρ S) bigN ρ S
  | .forS t it b, ρ, S => bndS ρ (evalI G C it ρ S) fun xs S => loopF (fun d ρ S => asgT G C t d ρ S) (fun ρ S => execs G C b ρ S) xs ρ S
  | .ret e, ρ, S => bndS ρ (evalE G C e ρ S) fun d S => some (.ret d S)
  | .retN, _, S => some (.ret .non S)
  | .pass, ρ, S => some (.nx ρ S)
  | .brk, ρ, S => some (.brk ρ S)
  | .cont, ρ, S => some (.ct ρ S)
  | .raise c es, ρ, S => bndS ρ (evalEs G C es ρ S) fun ds S => some (.exc c ds ρ S)
def execs (G : GCon) (C : CallF) : List MS → Env → Store → Option SR
  | [], ρ, S => some (.nx ρ S)
  | s :: ss, ρ, S => match exec G C s ρ S with
    | some (.nx ρ' S') => execs G C ss ρ' S'
    | r => r
end

/-! ### defs -/
structure MDef where
  np : Nat
  ns : Nat
  body : List MS
  pur : Bool
def runBody (G : GCon) (C : CallF) (d : MDef) (args : List D) (S : Store) : Out D :=
  match execs G C d.body (args.map some ++ List.replicate (d.ns - d.np) none) S with
  | some (.nx _ S') => ok .non S'
  | some (.ret r S') => ok r S'
  | some (.exc c p _ S') => some (.exc c p S')
  | _ => none
def callD (G : GCon) (C : CallF) (d : MDef) (args : List D) (S : Store) : Out D :=
  if args.length = d.np then
    if d.pur then
      if pureDs args then match runBody G C d args [] with
        | some (.ok r _) => if pureD r then ok r S else none
        | some (.exc c p _) => some (.exc c p S)
        | none => none
      else none
    else runBody G C d args S
  else none
def callK (G : GCon) (T : Nat → Option MDef) : Nat → CallF
  | 0, _, _, _ => none
  | k + 1, f, args, S => match T f with
    | some d => callD G (callK G T k) d args S
    | none => none
end KL
end
section
set_option Elab.async false
set_option linter.all false
set_option maxRecDepth 100000
set_option maxHeartbeats 2000000
/-! KLKey: dict keys that are tuples of any depth, of ints, truth values and texts. -/
namespace KL
open PySem PySem.Spec PyProof.Rows L2

/-- a key by its value: True is 1 -/
inductive KK where
  | int (i : Int) | str (x : Str) | tup (ks : List KK)
noncomputable instance : DecidableEq KK := fun a b => Classical.propDecidable (a = b)
mutual
def KK.dep : KK → Nat
  | .int _ => 0 | .str _ => 0
  | .tup ks => KK.deps ks + 1
def KK.deps : List KK → Nat
  | [] => 0
  | k :: ks => max k.dep (KK.deps ks)
end
mutual
/-- what stands for a key -/
def IsK (h : Heap) : KK → Value → Prop
  | .int i, v => (∃ t, v = .int i t) ∨ ∃ b, v = .bool b ∧ i = PpSet.b2 b
  | .str x, v => ∃ t, v = .str x t
  | .tup ks, v => ∃ a o items n, v = .ref a ∧ h.get? a = some o ∧ o.cls = .type "tuple" ∧ o.data = .seq items n ∧ IsKs h ks items.toList
def IsKs (h : Heap) : List KK → List Value → Prop
  | [], vs => vs = []
  | k :: ks, vs => ∃ u us, vs = u :: us ∧ IsK h k u ∧ IsKs h ks us
end
mutual
def hashK (w : World) : KK → Int
  | .int i => hashInt i
  | .str x => hashStr w x
  | .tup ks => reduceHash (Builtin.Tuple.tupleHashOf (hashKs w ks))
def hashKs (w : World) : List KK → List Int
  | [] => []
  | k :: ks => hashK w k :: hashKs w ks
end
mutual
def drK : KK → Nat
  | .int _ => 1 | .str _ => 1
  | .tup ks => drKs ks + 1
def drKs : List KK → Nat
  | [] => 0
  | k :: ks => drK k + drKs ks
end
section
variable {h h' : Heap}
mutual
theorem IsK.inj : ∀ {k j : KK} {v : Value}, IsK h k v → IsK h j v → k = j
  | .int i, .int j, v, a, b => by
    rcases a with ⟨t, rfl⟩ | ⟨c, rfl, rfl⟩ <;> rcases b with ⟨u, e⟩ | ⟨d, e, rfl⟩
    · injection e with e1 _; rw [e1]
    · cases e
    · cases e
    · injection e with e1; rw [e1]
  | .str x, .str y, v, a, b => by
    obtain ⟨t, rfl⟩ := a
    obtain ⟨u, e⟩ := b
    injection e with e1 _; rw [e1]
  | .tup ks, .tup js, v, a, b => by
    obtain ⟨a, o, its, n, rfl, ho, hc, hd, hk⟩ := a
    obtain ⟨b, o', its', n', e, ho', hc', hd', hj⟩ := b
    injection e with e; subst e
    rw [ho] at ho'; cases ho'
    rw [hd] at hd'; injection hd' with e1 _; subst e1
    rw [IsKs.inj hk hj]
  | .int i, .str y, v, a, b => by
    obtain ⟨u, rfl⟩ := b
    rcases a with ⟨t, e⟩ | ⟨c, e, _⟩ <;> cases e
  | .int i, .tup js, v, a, b => by
    obtain ⟨_, _, _, _, rfl, _⟩ := b
    rcases a with ⟨t, e⟩ | ⟨c, e, _⟩ <;> cases e
  | .str x, .int j, v, a, b => by
    obtain ⟨u, rfl⟩ := a
    rcases b with ⟨t, e⟩ | ⟨c, e, _⟩ <;> cases e
  | .str x, .tup js, v, a, b => by
    obtain ⟨u, rfl⟩ := a
    obtain ⟨_, _, _, _, e, _⟩ := b
    cases e
  | .tup ks, .int j, v, a, b => by
    obtain ⟨_, _, _, _, rfl, _⟩ := a
    rcases b with ⟨t, e⟩ | ⟨c, e, _⟩ <;> cases e
  | .tup ks, .str y, v, a, b => by
    obtain ⟨_, _, _, _, rfl, _⟩ := a
    obtain ⟨u, e⟩ := b
    cases e
theorem IsKs.inj : ∀ {ks js : List KK} {vs : List Value}, IsKs h ks vs → IsKs h js vs → ks = js
  | [], [], _, _, _ => rfl
  | [], _ :: _, vs, a, b => by
    have a : vs = [] := a
    obtain ⟨_, _, e, _⟩ := b
    rw [a] at e; cases e
  | _ :: _, [], vs, a, b => by
    have b : vs = [] := b
    obtain ⟨_, _, e, _⟩ := a
    rw [b] at e; cases e
  | k :: ks, j :: js, vs, a, b => by
    obtain ⟨u, us, rfl, a1, a2⟩ := a
    obtain ⟨_, _, e, b1, b2⟩ := b
    injection e with e1 e2; subst e1; subst e2
    rw [IsK.inj a1 b1, IsKs.inj a2 b2]
end
mutual
theorem IsK.keeps (hs : ∀ b o its n, h.get? b = some o → o.cls = .type "tuple" → o.data = .seq its n → h'.get? b = some o) : ∀ {k : KK} {v : Value}, IsK h k v → IsK h' k v
  | .int i, v, a => a
  | .str x, v, a => a
  | .tup ks, v, a => by
    obtain ⟨a, o, its, n, rfl, ho, hc, hd, hk⟩ := a
    exact ⟨a, o, its, n, rfl, hs a o its n ho hc hd, hc, hd, IsKs.keeps hs hk⟩
theorem IsKs.keeps (hs : ∀ b o its n, h.get? b = some o → o.cls = .type "tuple" → o.data = .seq its n → h'.get? b = some o) : ∀ {ks : List KK} {vs : List Value}, IsKs h ks vs → IsKs h' ks vs
  | [], vs, a => a
  | k :: ks, vs, a => by
    obtain ⟨u, us, rfl, a1, a2⟩ := a
    exact ⟨u, us, rfl, IsK.keeps hs a1, IsKs.keeps hs a2⟩
end
theorem IsKs.length : ∀ {ks : List KK} {vs : List Value}, IsKs h ks vs → ks.length = vs.length
  | [], vs, a => by rw [show vs = [] from a]; rfl
  | k :: ks, vs, a => by
    obtain ⟨u, us, rfl, _, a2⟩ := a
    simp [IsKs.length a2]
end
section
variable {prog : Program} {w : World}
theorem in1_units (A : Around) : A.in1.units = A.units + 1 := rfl

mutual
theorem hash_run : ∀ (k : KK) {A : Around} {E : Value → Shared → Prop} {s : Shared} {v : Value} {Q : Int → Shared → Prop}, A.units + k.dep < cLine → IsK s.heap k v → Q (hashK w k) { s with toks := s.toks + drK k } →
    wpAny (model prog w) A (pyHash v) Q E s
  | .int i, A, E, s, v, Q, _, hk, h => by
    rcases hk with ⟨t, rfl⟩ | ⟨b, rfl, rfl⟩
    · exact wpAny_pyHash_int h
    · exact PpSet.pyHash_bool h
  | .str x, A, E, s, v, Q, _, hk, h => by
    obtain ⟨t, rfl⟩ := hk
    exact wpAny_pyHash_str h
  | .tup ks, A, E, s, v, Q, hd, hk, h => by
    obtain ⟨a, o, items, n, rfl, ho, hc, hda, hi⟩ := hk
    have hu : A.units < cLine := Nat.lt_of_le_of_lt (Nat.le_add_right _ _) hd
    have hT : s.TypeIs (.ref a) "tuple" := ⟨o, ho, hc⟩
    unfold pyHash
    first | unfold pyHashByItsType | skip
    first | refine wpAny_bind (wpAny_cRoomFor_or (.inr hu) ?_) | skip
    refine wpAny_bind (wpAny_specialOf hT F.slot_tuple_hash.lookup ?_)
    show wpAny _ _ (if (some (Value.builtin "tuple.__hash__") == some Value.none) = true then _ else _) Q E s
    rw [if_neg (by rw [beq_builtin_none]; exact Bool.false_ne_true)]
    refine wpAny_bind (wpAny_specialOf hT F.slot_tuple_hash.lookup ?_)
    show wpAny _ _ (callSpecialIfBoundUnlessNone? (.ref a) "__hash__" _ >>= _) Q E s
    refine wpAny_bind (wpAny_callSpecialIfBoundUnlessNone?_slot hT F.slot_tuple_hash (wpAny_call_entry F.slot_tuple_hash hT F.entry_tuple_hash ?_ (F.args_tuple_hash_1 _)))
    show wpAny _ _ (Builtin.Tuple.tupleItemsOf (.ref a) >>= _) _ _ s
    refine wpAny_bind (wpAny_tupleItemsOf ho hda ?_)
    refine wpAny_bind ?_
    rw [← Array.forIn_toList]
    have hd' : A.in1.units + KK.deps ks < cLine := by
      have : A.units + (KK.deps ks + 1) < cLine := hd
      rw [in1_units]; omega
    refine hashs_run ks items.toList #[] hd' hi fun b hb => ?_
    show wpAny _ _ (retInt (Builtin.Tuple.tupleHashOf b.toList)) _ _ _
    rw [hb]
    refine wpAny_ret_mkInt ?_
    show wpAny _ _ (if (decide (-(2 : Int) ^ 63 ≤ Builtin.Tuple.tupleHashOf ([] ++ hashKs w ks)) && decide (Builtin.Tuple.tupleHashOf ([] ++ hashKs w ks) < 2 ^ 63)) = true then _ else _) Q E _
    have h' : Q (reduceHash (Builtin.Tuple.tupleHashOf ([] ++ hashKs w ks))) { s with toks := s.toks + (drKs ks + 1) } := h
    unfold reduceHash at h'
    by_cases hr : (decide (-(2 : Int) ^ 63 ≤ Builtin.Tuple.tupleHashOf ([] ++ hashKs w ks)) && decide (Builtin.Tuple.tupleHashOf ([] ++ hashKs w ks) < 2 ^ 63)) = true
    · rw [if_pos hr]
      rw [if_pos hr] at h'
      exact wpAny_pure (by simpa [Nat.add_assoc] using h')
    · rw [if_neg hr]
      rw [if_neg hr] at h'
      exact wpAny_bind (wpAny_rule (wpAny_pure (by simpa [Nat.add_assoc] using h')))
theorem hashs_run : ∀ (ks : List KK) (vs : List Value) (acc : Array Int) {A : Around} {E : Value → Shared → Prop} {s : Shared} {Q : Array Int → Shared → Prop}, A.units + KK.deps ks < cLine → IsKs s.heap ks vs →
    (∀ b : Array Int, b.toList = acc.toList ++ hashKs w ks → Q b { s with toks := s.toks + drKs ks }) →
    wpAny (model prog w) A (forIn vs acc fun x r => do let a ← pyHash x; pure (ForInStep.yield (r.push a))) Q E s
  | [], vs, acc, A, E, s, Q, _, hk, h => by
    have e : vs = [] := hk
    subst e
    exact wpAny_pure (h acc (by simp [hashKs]))
  | k :: ks, vs, acc, A, E, s, Q, hd, hk, h => by
    obtain ⟨u, us, rfl, h1, h2⟩ := hk
    have hm : A.units + max k.dep (KK.deps ks) < cLine := hd
    rw [List.forIn_cons]
    refine wpAny_bind (wpAny_bind (hash_run k (by omega) h1 (wpAny_pure ?_)))
    refine hashs_run ks us (acc.push (hashK w k)) (by omega) h2 fun b hb => ?_
    have := h b (by rw [hb]; simp [hashKs])
    simpa [drKs, Nat.add_assoc] using this
end
end

section
variable {s : Shared}
theorem IsKs.at : ∀ {ks : List KK} {vs : List Value} {h : Heap} (j : Nat) {v : Value}, IsKs h ks vs → vs[j]? = some v → ∃ k, ks[j]? = some k ∧ IsK h k v
  | [], vs, h, j, v, a, e => by
    rw [show vs = [] from a] at e
    simp at e
  | k :: ks, vs, h, j, v, a, e => by
    obtain ⟨u, us, rfl, a1, a2⟩ := a
    cases j with
    | zero =>
      simp at e
      subst e
      exact ⟨k, rfl, a1⟩
    | succ j =>
      obtain ⟨k', e1, e2⟩ := IsKs.at j a2 (by simpa using e)
      exact ⟨k', by simpa using e1, e2⟩
theorem dep_at : ∀ {ks : List KK} {j : Nat} {k : KK}, ks[j]? = some k → k.dep ≤ KK.deps ks
  | [], j, k, e => by simp at e
  | x :: xs, 0, k, e => by
    simp at e; subst e
    exact Nat.le_max_left _ _
  | x :: xs, j + 1, k, e => Nat.le_trans (dep_at (j := j) (by simpa using e)) (Nat.le_max_right _ _)
/-- two lists are equal by their places -/
theorem lists_dec {α : Type} [DecidableEq α] (xs ys : List α) : ((List.range (min xs.length ys.length)).all (fun j => decide (xs[j]? = ys[j]?)) && xs.length == ys.length) = decide (xs = ys) := by
  rw [Bool.eq_iff_iff]
  simp only [Bool.and_eq_true, List.all_eq_true, List.mem_range, decide_eq_true_eq, beq_iff_eq]
  constructor
  · rintro ⟨h1, h2⟩
    apply List.ext_getElem? 
    intro i
    by_cases hi : i < xs.length
    · exact h1 i (by omega)
    · rw [List.getElem?_eq_none (by omega), List.getElem?_eq_none (by omega)]
  · rintro rfl
    exact ⟨fun _ _ => rfl, rfl⟩
mutual
theorem eqAt_K : ∀ (k j : KK) {A : Around} {v u : Value}, A.units + k.dep < cLine → A.units + j.dep < cLine → IsK s.heap k v → IsK s.heap j u → SeqAt.EqAt A s v u (decide (k = j))
  | .int i, .int j, A, v, u, _, _, a, b => by
    have e1 : decide (KK.int i = KK.int j) = (i == j) := by
      rw [Bool.eq_iff_iff]; simp
    rw [e1]
    rcases a with ⟨t, rfl⟩ | ⟨c, rfl, rfl⟩ <;> rcases b with ⟨q, rfl⟩ | ⟨d, rfl, rfl⟩
    · exact SeqAt.EqAt.int_int i t j q
    · exact SeqAt.EqAt.int_bool i t d
    · exact SeqAt.EqAt.bool_int c j q
    · have : (PpSet.b2 c == PpSet.b2 d) = (c == d) := by cases c <;> cases d <;> rfl
      rw [this]
      exact SeqAt.EqAt.bool_bool c d
  | .str x, .str y, A, v, u, _, _, a, b => by
    obtain ⟨t, rfl⟩ := a
    obtain ⟨q, rfl⟩ := b
    have e1 : decide (KK.str x = KK.str y) = (x == y) := by
      rw [Bool.eq_iff_iff]; simp
    rw [e1]
    exact SeqAt.EqAt.str_str x t y q
  | .int i, .str y, A, v, u, _, _, a, b => by
    obtain ⟨q, rfl⟩ := b
    rw [decide_eq_false (by intro e; cases e)]
    rcases a with ⟨t, rfl⟩ | ⟨c, rfl, rfl⟩
    · exact SeqAt.EqAt.int_str i t y q
    · exact SeqAt.EqAt.bool_str c y q
  | .str y, .int i, A, v, u, _, _, b, a => by
    obtain ⟨q, rfl⟩ := b
    rw [decide_eq_false (by intro e; cases e)]
    rcases a with ⟨t, rfl⟩ | ⟨c, rfl, rfl⟩
    · exact SeqAt.EqAt.str_int y q i t
    · exact SeqAt.EqAt.str_bool y q c
  | .tup ks, .tup js, A, v, u, hd, hd', a, b => by
    obtain ⟨a, o, items, n, rfl, ho, hc, hda, hi⟩ := a
    obtain ⟨b, o', items', n', rfl, ho', hc', hda', hi'⟩ := b
    by_cases hab : a = b
    · subst hab
      rw [ho] at ho'; cases ho'
      rw [hda] at hda'; injection hda' with e1 _; subst e1
      rw [IsKs.inj hi hi', decide_eq_true rfl]
      exact SeqAt.EqAt.same _
    · refine SeqAt.EqAt.of_refs hab ?_
      have l1 := hi.length
      have l2 := hi'.length
      have hm : A.units + (KK.deps ks + 1) < cLine := hd
      have hm' : A.units + (KK.deps js + 1) < cLine := hd'
      have e1 : decide (KK.tup ks = KK.tup js) = decide (ks = js) := by
        rw [Bool.eq_iff_iff]; simp
      have q := SeqAt.RcAt.tuples (A := A) (s := s) (l := a) (b := b) (items := items) (items2 := items') (e := fun j => decide (ks[j]? = js[j]?)) ⟨o, ho, hc, n, hda⟩ ⟨o', ho', hc', n', hda'⟩ (by omega) (fun j h1 h2 => ?_)
      · rw [e1, ← lists_dec]
        have z1 : items.size = ks.length := by simpa using l1.symm
        have z2 : items'.size = js.length := by simpa using l2.symm
        rw [z1, z2] at q
        exact q
      · exact eqAt_Ks ks js j (A := A.in1) (by rw [in1_units]; omega) (by rw [in1_units]; omega) hi hi' (by simp [h1]) (by simp [h2])
  | .int i, .tup js, A, v, u, _, hd, a, b => by
    obtain ⟨b, o', items', n', rfl, ho', hc', hda', hi'⟩ := b
    rw [decide_eq_false (by intro e; cases e)]
    have hu : A.units < cLine := Nat.lt_of_le_of_lt (Nat.le_add_right _ _) hd
    rcases a with ⟨t, rfl⟩ | ⟨c, rfl, rfl⟩
    · exact SeqAt.EqAt.int_tuple i t ⟨o', ho', hc', n', hda'⟩ hu
    · exact SeqAt.EqAt.bool_tuple c ⟨o', ho', hc', n', hda'⟩ hu
  | .tup js, .int i, A, v, u, hd, _, b, a => by
    obtain ⟨b, o', items', n', rfl, ho', hc', hda', hi'⟩ := b
    rw [decide_eq_false (by intro e; cases e)]
    have hu : A.units < cLine := Nat.lt_of_le_of_lt (Nat.le_add_right _ _) hd
    rcases a with ⟨t, rfl⟩ | ⟨c, rfl, rfl⟩
    · exact SeqAt.EqAt.tuple_int i t ⟨o', ho', hc', n', hda'⟩ hu
    · exact SeqAt.EqAt.tuple_bool c ⟨o', ho', hc', n', hda'⟩ hu
  | .str x, .tup js, A, v, u, _, hd, a, b => by
    obtain ⟨b, o', items', n', rfl, ho', hc', hda', hi'⟩ := b
    obtain ⟨t, rfl⟩ := a
    rw [decide_eq_false (by intro e; cases e)]
    have hu : A.units < cLine := Nat.lt_of_le_of_lt (Nat.le_add_right _ _) hd
    exact SeqAt.EqAt.str_tuple x t ⟨o', ho', hc', n', hda'⟩ hu
  | .tup js, .str x, A, v, u, hd, _, b, a => by
    obtain ⟨b, o', items', n', rfl, ho', hc', hda', hi'⟩ := b
    obtain ⟨t, rfl⟩ := a
    rw [decide_eq_false (by intro e; cases e)]
    have hu : A.units < cLine := Nat.lt_of_le_of_lt (Nat.le_add_right _ _) hd
    exact SeqAt.EqAt.tuple_str x t ⟨o', ho', hc', n', hda'⟩ hu
theorem eqAt_Ks : ∀ (ks js : List KK) (j : Nat) {A : Around} {vs us : List Value} {v u : Value}, A.units + KK.deps ks < cLine → A.units + KK.deps js < cLine → IsKs s.heap ks vs → IsKs s.heap js us → vs[j]? = some v → us[j]? = some u → SeqAt.EqAt A s v u (decide (ks[j]? = js[j]?))
  | [], js, j, A, vs, us, v, u, _, _, a, b, e, f => by
    rw [show vs = [] from a] at e
    simp at e
  | ks, [], j, A, vs, us, v, u, _, _, a, b, e, f => by
    rw [show us = [] from b] at f
    simp at f
  | k :: ks, i :: is, 0, A, vs, us, v, u, hd, hd', a, b, e, f => by
    obtain ⟨v', vs', rfl, a1, a2⟩ := a
    obtain ⟨u', us', rfl, b1, b2⟩ := b
    simp at e f
    subst e f
    have hm : A.units + max k.dep (KK.deps ks) < cLine := hd
    have hm' : A.units + max i.dep (KK.deps is) < cLine := hd'
    have := eqAt_K k i (A := A) (by omega) (by omega) a1 b1
    simpa using this
  | k :: ks, i :: is, j + 1, A, vs, us, v, u, hd, hd', a, b, e, f => by
    obtain ⟨v', vs', rfl, a1, a2⟩ := a
    obtain ⟨u', us', rfl, b1, b2⟩ := b
    have hm : A.units + max k.dep (KK.deps ks) < cLine := hd
    have hm' : A.units + max i.dep (KK.deps is) < cLine := hd'
    have := eqAt_Ks ks is j (A := A) (by omega) (by omega) a2 b2 (by simpa using e) (by simpa using f)
    simpa using this
end
mutual
theorem quiet_K {prog : Program} {w : World} : ∀ (k : KK) {n : Nat} {A : Around} {E : Value → Shared → Prop} {v : Value} {Q : Bool → Shared → Prop}, k.dep ≤ n → IsK s.heap k v → Q true s → wpAny (model prog w) A (eqIsQuiet n v) Q E s
  | .int i, n, A, E, v, Q, _, a, h => by
    rcases a with ⟨t, rfl⟩ | ⟨c, rfl, rfl⟩
    · rw [eqIsQuiet_byValue _ rfl]; exact wpAny_pure h
    · rw [eqIsQuiet_byValue _ rfl]; exact wpAny_pure h
  | .str x, n, A, E, v, Q, _, a, h => by
    obtain ⟨t, rfl⟩ := a
    rw [eqIsQuiet_byValue _ rfl]; exact wpAny_pure h
  | .tup ks, 0, A, E, v, Q, hd, a, h => by
    exact absurd hd (by simp [KK.dep])
  | .tup ks, n + 1, A, E, v, Q, hd, a, h => by
    obtain ⟨a, o, items, m, rfl, ho, hc, hda, hi⟩ := a
    have hT : s.TypeIs (.ref a) "tuple" := ⟨o, ho, hc⟩
    unfold eqIsQuiet
    refine wpAny_bind (wpAny_specialOf hT F.slot_tuple_eq.lookup ?_)
    show wpAny _ _ (isInstance (.ref a) (.type "tuple") >>= _) _ _ s
    refine wpAny_bind (wpAny_isInstance hT isSubtype_tuple_tuple ?_)
    simp only [Bool.not_true, Bool.false_eq_true, if_false]
    refine wpAny_bind (wpAny_seqItems ho hda ?_)
    refine wpAny_bind ?_
    show wpAny _ _ (forIn items _ _) _ _ s
    rw [← Array.forIn_toList]
    have hd' : KK.deps ks ≤ n := by
      have : KK.deps ks + 1 ≤ n + 1 := hd
      omega
    exact quiet_Ks ks items.toList hd' hi (wpAny_pure h)
theorem quiet_Ks {prog : Program} {w : World} : ∀ (ks : List KK) (vs : List Value) {n : Nat} {A : Around} {E : Value → Shared → Prop} {Q : Option Bool × PUnit → Shared → Prop}, KK.deps ks ≤ n → IsKs s.heap ks vs → Q (none, PUnit.unit) s →
    wpAny (model prog w) A (forIn vs ((none, PUnit.unit) : Option Bool × PUnit) fun y r => do
      let b ← eqIsQuiet n y
      if (!b) = true then pure (ForInStep.done (some false, PUnit.unit)) else pure (ForInStep.yield (none, PUnit.unit))) Q E s
  | [], vs, n, A, E, Q, _, a, h => by
    rw [show vs = [] from a]
    exact wpAny_pure h
  | k :: ks, vs, n, A, E, Q, hd, a, h => by
    obtain ⟨u, us, rfl, a1, a2⟩ := a
    have hm : max k.dep (KK.deps ks) ≤ n := hd
    rw [List.forIn_cons]
    refine wpAny_bind (wpAny_bind (quiet_K k (by omega) a1 ?_))
    simp only [Bool.not_true, Bool.false_eq_true, if_false]
    exact wpAny_pure (quiet_Ks ks us (by omega) a2 h)
end
end
noncomputable def deepKind (prog : Program) (w : World) : HeapKind prog w KK where
  is := fun h k a => IsK h k (.ref a) ∧ k.dep ≤ 6
  hash := hashK w
  draws := drK
  room := fun A => A.units + 8 < cLine
  inj := fun hx hy => hx.1.inj hy.1
  keeps := fun {h h' k a d o es ep} x ho hd hs => by
    refine ⟨IsK.keeps (fun b ob its n hb hc hq => ?_) x.1, x.2⟩
    refine (hs.2 b ?_).trans hb
    rintro rfl
    rw [ho] at hb
    cases hb
    rw [hd] at hq
    cases hq
  pyHash := fun hu hk h => hash_run _ (by have := hk.2; omega) hk.1 h
  eqBool := fun hu hx hy h => eqAt_K _ _ (by have := hx.2; omega) (by have := hy.2; omega) hx.1 hy.1 _ _ _ _ h
  quiet := fun hk h => quiet_K _ (by have := hk.2; omega) hk.1 h
end KL
end
section
set_option Elab.async false
set_option linter.all false
set_option maxRecDepth 100000
set_option maxHeartbeats 2000000
set_option autoImplicit false
/-! KLRep: how data and the store stand in the kit's abstract heap. -/
namespace KL
open PySem PySem.Spec PyProof.Rows L2

def strV (s : Txt) : Str := ⟨s.toArray⟩
theorem strV_inj {s t : Txt} (h : strV s = strV t) : s = t := by
  unfold strV at h
  injection h with h
  simpa using congrArg Array.toList h
/-- the raw object at a -/
abbrev RawO (a : Addr) (o : Obj) : HO := .ext fun h => h.get? a = some o
mutual
def nk : D → Option KK
  | .bl b => some (.int (PpSet.b2 b))
  | .int i => some (.int i)
  | .str s => some (.str (strV s))
  | .tup xs => (nks xs).map .tup
  | _ => none
def nks : List D → Option (List KK)
  | [] => some []
  | x :: xs => match nk x, nks xs with
    | some a, some b => some (a :: b)
    | _, _ => none
end
section
variable (P : Program) (w : World) (K : PySem.W.Frag)
def LstAt (H : Hp) (L : Addr → Prop) (a : Addr) (vs : List V) : Prop := H a = some (.lst vs) ∧ ¬ L a
def ScrAt (H : Hp) (L : Addr → Prop) (a : Addr) (vs : List V) : Prop := (Rd H a (.lst vs) ∧ ¬ L a) ∨
    ∃ (o : Obj) (its : Array Value) (n : Nat), K.lookup a = some o ∧ o.cls = .type "list" ∧ o.dict = none ∧ o.data = .seq its n ∧ its.size ≤ sizeLine ∧ Vals vs its.toList
def TupAt (H : Hp) (L : Addr → Prop) (a : Addr) (vs : List V) : Prop := (Rd H a (.tup vs) ∧ ¬ L a) ∨
    ∃ (o : Obj) (its : Array Value) (n : Nat), K.lookup a = some o ∧ o.cls = .type "tuple" ∧ o.data = .seq its n ∧ its.size ≤ sizeLine ∧ Vals vs its.toList
theorem LstAt.sq {K : PySem.W.Frag} {H : Hp} {L : Addr → Prop} {a : Addr} {vs : List V} (h : LstAt H L a vs) : SqL K H a vs := .inl (.inl h.1)
theorem ScrAt.sq {K : PySem.W.Frag} {H : Hp} {L : Addr → Prop} {a : Addr} {vs : List V} (h : ScrAt K H L a vs) : SqL K H a vs := h.elim (fun z => .inl z.1) .inr
theorem TupAt.sq {K : PySem.W.Frag} {H : Hp} {L : Addr → Prop} {a : Addr} {vs : List V} (h : TupAt K H L a vs) : SqT K H a vs := h.elim (fun z => .inl z.1) .inr
def kvZip (ks : List Txt) (vs : List V) : List (Key × V) := List.zipWith (fun k v => (Sum.inr (strV k), v)) ks vs
structure RawD (H : Hp) (a : Addr) (xs : List (KK × Addr × Value)) : Prop where
  at_ : ∃ o es ep, H a = some (RawO a o) ∧ o.ExactDict ∧ o.data = .dict es ep ∧ es.toList = xs.map (entryOfKey (deepKind P w)) ∧ (xs.map (·.1)).Nodup
  sm : (a == sysModules) = false
  sz : xs.length ≤ sizeLine
mutual
def Rep (H : Hp) (L : Addr → Prop) (m : List Addr) : D → V → Prop
  | .non, v => v = .non
  | .bl b, v => v = .bl b
  | .int i, v => v = .int i
  | .str s, v => v = .str (strV s)
  | .tup xs, v => ∃ a vs, v = .ref a ∧ TupAt K H L a vs ∧ Reps H L m xs vs
  | .lst xs, v => ∃ a vs, v = .ref a ∧ LstAt H L a vs ∧ Reps H L m xs vs
  | .dS ks ds, v => ∃ a vs, v = .ref a ∧ H a = some (.dK (kvZip ks vs)) ∧ ¬ L a ∧ ks.length = vs.length ∧ Reps H L m ds vs
  | .dT ks ds, v => ∃ a xs vs, v = .ref a ∧ RawD P w H a xs ∧ ¬ L a ∧ KReps H L m ks xs ∧ Reps H L m ds vs ∧ Vals vs (xs.map (·.2.2))
  | .ref n, v => ∃ a, v = .ref a ∧ m[n]? = some a
  | .scr ns, v => ∃ a, v = .ref a ∧ ScrAt K H L a (ns.map V.int)
def Reps (H : Hp) (L : Addr → Prop) (m : List Addr) : List D → List V → Prop
  | [], vs => vs = []
  | d :: ds, vs => ∃ v us, vs = v :: us ∧ Rep H L m d v ∧ Reps H L m ds us
def KReps (H : Hp) (L : Addr → Prop) (m : List Addr) : List D → List (KK × Addr × Value) → Prop
  | [], xs => xs = []
  | d :: ds, xs => ∃ k b u ys, xs = (k, b, u) :: ys ∧ nk d = some k ∧ k.dep ≤ 6 ∧ Rep H L m d (.ref b) ∧ KReps H L m ds ys
end
/-- a thing of the store at its address -/
def SRep (H : Hp) (L : Addr → Prop) (m : List Addr) (a : Addr) : SO → Prop
  | .lst xs => ∃ vs, H a = some (.lst vs) ∧ Reps P w K H L m xs vs
  | .dS ks ds => ∃ vs, H a = some (.dK (kvZip ks vs)) ∧ ks.length = vs.length ∧ ks.Nodup ∧ Reps P w K H L m ds vs
  | .dT ks ds => ∃ xs vs, RawD P w H a xs ∧ KReps P w K H L m ks xs ∧ Reps P w K H L m ds vs ∧ Vals vs (xs.map (·.2.2))
  | .ins _ _ => False
  | .dead => True
end
def SO.live : SO → Bool
  | .dead => false
  | _ => true
def Lv (m : List Addr) (S : Store) (a : Addr) : Prop := ∃ (n : Nat) (o : SO), S[n]? = some o ∧ o.live = true ∧ m[n]? = some a
abbrev LL (Z : Addr → Prop) (m : List Addr) (S : Store) (a : Addr) : Prop := Z a ∨ Lv m S a
structure HR (P : Program) (w : World) (K : PySem.W.Frag) (Z : Addr → Prop) (m : List Addr) (S : Store) (H : Hp) : Prop where
  len : m.length = S.length
  nd : m.Nodup
  dom : ∀ a ∈ m, H a ≠ none
  z : ∀ a, Z a → H a ≠ none ∧ a ∉ m
  obj : ∀ (n : Nat) (o : SO) (a : Addr), S[n]? = some o → o.live = true → m[n]? = some a → SRep P w K H (LL Z m S) m a o
/-- how state goes on -/
structure Ext (m : List Addr) (S : Store) (H : Hp) (m' : List Addr) (S' : Store) (H' : Hp) : Prop where
  pre : ∃ t, m' = m ++ t
  keep : ∀ b o, H b = some o → ¬ Lv m S b → H' b = some o
  noL : ∀ b o, H b = some o → ¬ Lv m S b → ¬ Lv m' S' b
theorem Ext.refl {m : List Addr} {S : Store} {H : Hp} : Ext m S H m S H := ⟨⟨[], by simp⟩, fun _ _ h _ => h, fun _ _ _ h => h⟩
theorem Ext.trans {m m1 m2 : List Addr} {S S1 S2 : Store} {H H1 H2 : Hp} (a : Ext m S H m1 S1 H1) (b : Ext m1 S1 H1 m2 S2 H2) : Ext m S H m2 S2 H2 := by
  obtain ⟨t, e⟩ := a.pre
  obtain ⟨t', e'⟩ := b.pre
  exact ⟨⟨t ++ t', by rw [e', e, List.append_assoc]⟩, fun c o h n => b.keep c o (a.keep c o h n) (a.noL c o h n), fun c o h n => b.noL c o (a.keep c o h n) (a.noL c o h n)⟩
section
variable {P : Program} {w : World} {K : PySem.W.Frag} {H H' : Hp} {L L' : Addr → Prop} {m m' : List Addr}
/-- what a datum leans on -/
structure Mono (H : Hp) (L : Addr → Prop) (m : List Addr) (H' : Hp) (L' : Addr → Prop) (m' : List Addr) : Prop where
  pre : ∀ (n : Nat) (a : Addr), m[n]? = some a → m'[n]? = some a
  keep : ∀ b o, H b = some o → ¬ L b → H' b = some o
  noL : ∀ b o, H b = some o → ¬ L b → ¬ L' b
theorem Mono.rd (x : Mono H L m H' L' m') {a : Addr} {u : HO} (r : Rd H a u) (n : ¬ L a) : Rd H' a u ∧ ¬ L' a := by
  rcases r with r | ⟨o, r⟩
  · exact ⟨.inl (x.keep _ _ r n), x.noL _ _ r n⟩
  · exact ⟨.inr ⟨o, x.keep _ _ r n⟩, x.noL _ _ r n⟩
theorem LstAt.mono (x : Mono H L m H' L' m') {a : Addr} {vs : List V} (h : LstAt H L a vs) : LstAt H' L' a vs := ⟨x.keep _ _ h.1 h.2, x.noL _ _ h.1 h.2⟩
theorem ScrAt.mono (x : Mono H L m H' L' m') {a : Addr} {vs : List V} (h : ScrAt K H L a vs) : ScrAt K H' L' a vs := h.elim (fun z => .inl (x.rd z.1 z.2)) .inr
theorem TupAt.mono (x : Mono H L m H' L' m') {a : Addr} {vs : List V} (h : TupAt K H L a vs) : TupAt K H' L' a vs := h.elim (fun z => .inl (x.rd z.1 z.2)) .inr
theorem RawD.mono (x : Mono H L m H' L' m') {a : Addr} {xs : List (KK × Addr × Value)} (n : ¬ L a) (h : RawD P w H a xs) : RawD P w H' a xs ∧ ¬ L' a := by
  obtain ⟨⟨o, es, ep, h1, h2⟩, h3, h4⟩ := h
  exact ⟨⟨⟨o, es, ep, x.keep _ _ h1 n, h2⟩, h3, h4⟩, x.noL _ _ h1 n⟩
mutual
theorem Rep.mono (x : Mono H L m H' L' m') : ∀ {d : D} {v : V}, Rep P w K H L m d v → Rep P w K H' L' m' d v
  | .non, _, h => h
  | .bl _, _, h => h
  | .int _, _, h => h
  | .str _, _, h => h
  | .tup xs, _, h => by
    obtain ⟨a, vs, e, h1, h2⟩ := h
    exact ⟨a, vs, e, h1.mono x, Reps.mono x h2⟩
  | .lst xs, _, h => by
    obtain ⟨a, vs, e, h1, h2⟩ := h
    exact ⟨a, vs, e, h1.mono x, Reps.mono x h2⟩
  | .dS ks ds, _, h => by
    obtain ⟨a, vs, e, h1, h2, h3, h4⟩ := h
    exact ⟨a, vs, e, x.keep _ _ h1 h2, x.noL _ _ h1 h2, h3, Reps.mono x h4⟩
  | .dT ks ds, _, h => by
    obtain ⟨a, xs, vs, e, h1, h2, h3, h4, h5⟩ := h
    obtain ⟨q1, q2⟩ := h1.mono x h2
    exact ⟨a, xs, vs, e, q1, q2, KReps.mono x h3, Reps.mono x h4, h5⟩
  | .ref n, _, h => by
    obtain ⟨a, e, h1⟩ := h
    exact ⟨a, e, x.pre _ _ h1⟩
  | .scr ns, _, h => by
    obtain ⟨a, e, h1⟩ := h
    exact ⟨a, e, h1.mono x⟩
theorem Reps.mono (x : Mono H L m H' L' m') : ∀ {ds : List D} {vs : List V}, Reps P w K H L m ds vs → Reps P w K H' L' m' ds vs
  | [], _, h => h
  | d :: ds, _, h => by
    obtain ⟨v, us, e, h1, h2⟩ := h
    exact ⟨v, us, e, Rep.mono x h1, Reps.mono x h2⟩
theorem KReps.mono (x : Mono H L m H' L' m') : ∀ {ds : List D} {xs : List (KK × Addr × Value)}, KReps P w K H L m ds xs → KReps P w K H' L' m' ds xs
  | [], _, h => h
  | d :: ds, _, h => by
    obtain ⟨k, b, u, ys, e, h1, h2, h3, h4⟩ := h
    exact ⟨k, b, u, ys, e, h1, h2, Rep.mono x h3, KReps.mono x h4⟩
end
theorem Ext.mono {Z : Addr → Prop} {S S' : Store} (e : Ext m S H m' S' H') : Mono H (LL Z m S) m H' (LL Z m' S') m' := by
  obtain ⟨t, q⟩ := e.pre
  refine ⟨fun n a h => ?_, fun b o h n => e.keep b o h fun z => n (.inr z), fun b o h n z => ?_⟩
  · rw [q, List.getElem?_append_left]
    · exact h
    · exact (List.getElem?_eq_some_iff.mp h).1
  · rcases z with z | z
    · exact n (.inl z)
    · exact e.noL b o h (fun y => n (.inr y)) z
/-- fewer things to avoid -/
theorem Mono.less (h : ∀ a, L' a → L a) : Mono H L m H L' m := ⟨fun _ _ z => z, fun _ _ z _ => z, fun b _ _ n z => n (h b z)⟩
theorem Reps.length : ∀ {ds : List D} {vs : List V}, Reps P w K H L m ds vs → ds.length = vs.length
  | [], _, h => by rw [show _ = [] from h]; rfl
  | d :: ds, _, h => by
    obtain ⟨v, us, rfl, _, h2⟩ := h
    simp [Reps.length h2]
theorem Reps.at : ∀ {ds : List D} {vs : List V} {i : Nat} {d : D}, Reps P w K H L m ds vs → ds[i]? = some d → ∃ v, vs[i]? = some v ∧ Rep P w K H L m d v
  | [], _, i, d, h, e => by simp at e
  | x :: ds, _, 0, d, h, e => by
    obtain ⟨v, us, rfl, h1, h2⟩ := h
    simp at e; subst e
    exact ⟨v, rfl, h1⟩
  | x :: ds, _, i + 1, d, h, e => by
    obtain ⟨v, us, rfl, h1, h2⟩ := h
    simpa using Reps.at (i := i) h2 (by simpa using e)
theorem Reps.append : ∀ {ds es : List D} {vs us : List V}, Reps P w K H L m ds vs → Reps P w K H L m es us → Reps P w K H L m (ds ++ es) (vs ++ us)
  | [], es, _, us, h, g => by rw [show _ = [] from h]; exact g
  | d :: ds, es, _, us, h, g => by
    obtain ⟨v, vs, rfl, h1, h2⟩ := h
    exact ⟨v, vs ++ us, rfl, h1, Reps.append h2 g⟩
theorem Reps.snoc {ds : List D} {vs : List V} {d : D} {v : V} (h : Reps P w K H L m ds vs) (g : Rep P w K H L m d v) : Reps P w K H L m (ds ++ [d]) (vs ++ [v]) := h.append ⟨v, [], rfl, g, rfl⟩
theorem Reps.drop : ∀ {ds : List D} {vs : List V} (n : Nat), Reps P w K H L m ds vs → Reps P w K H L m (ds.drop n) (vs.drop n)
  | _, _, 0, h => h
  | [], _, n + 1, h => by rw [show _ = [] from h]; exact rfl
  | d :: ds, _, n + 1, h => by
    obtain ⟨v, vs, rfl, h1, h2⟩ := h
    exact Reps.drop n h2
theorem Reps.take : ∀ {ds : List D} {vs : List V} (n : Nat), Reps P w K H L m ds vs → Reps P w K H L m (ds.take n) (vs.take n)
  | _, _, 0, h => rfl
  | [], _, n + 1, h => by rw [show _ = [] from h]; exact rfl
  | d :: ds, _, n + 1, h => by
    obtain ⟨v, vs, rfl, h1, h2⟩ := h
    exact ⟨v, vs.take n, rfl, h1, Reps.take n h2⟩
theorem Reps.set : ∀ {ds : List D} {vs : List V} {d : D} {v : V} (i : Nat), Reps P w K H L m ds vs → Rep P w K H L m d v → Reps P w K H L m (ds.set i d) (vs.set i v)
  | [], _, d, v, i, h, g => by rw [show _ = [] from h]; exact rfl
  | x :: ds, _, d, v, 0, h, g => by
    obtain ⟨u, vs, rfl, h1, h2⟩ := h
    exact ⟨v, vs, rfl, g, h2⟩
  | x :: ds, _, d, v, i + 1, h, g => by
    obtain ⟨u, vs, rfl, h1, h2⟩ := h
    exact ⟨u, vs.set i v, rfl, h1, Reps.set i h2 g⟩
theorem Reps.dropLast : ∀ {ds : List D} {vs : List V}, Reps P w K H L m ds vs → Reps P w K H L m ds.dropLast vs.dropLast
  | [], _, h => by rw [show _ = [] from h]; exact rfl
  | [d], _, h => by
    obtain ⟨v, vs, rfl, h1, h2⟩ := h
    rw [show vs = [] from h2]; exact rfl
  | d :: e :: ds, _, h => by
    obtain ⟨v, vs, rfl, h1, h2⟩ := h
    obtain ⟨u, us, rfl, h3, h4⟩ := id h2
    exact ⟨v, _, rfl, h1, Reps.dropLast h2⟩
theorem Reps.of_at : ∀ {ds : List D} {vs : List V}, ds.length = vs.length → (∀ (i : Nat) (d : D) (v : V), ds[i]? = some d → vs[i]? = some v → Rep P w K H L m d v) → Reps P w K H L m ds vs
  | [], [], _, _ => rfl
  | [], _ :: _, h, _ => by simp at h
  | _ :: _, [], h, _ => by simp at h
  | d :: ds, v :: vs, h, f => ⟨v, vs, rfl, f 0 d v rfl rfl, Reps.of_at (by simpa using h) fun i e u h1 h2 => f (i + 1) e u (by simpa using h1) (by simpa using h2)⟩
end
mutual
theorem nk_dep : ∀ {n : Nat} {d : D}, keyOkN n d = true → ∃ k, nk d = some k ∧ k.dep ≤ n
  | n, .bl b, _ => ⟨_, rfl, Nat.zero_le _⟩
  | n, .int b, _ => ⟨_, rfl, Nat.zero_le _⟩
  | n, .str b, _ => ⟨_, rfl, Nat.zero_le _⟩
  | 0, .tup xs, h => by simp [keyOkN] at h
  | n + 1, .tup xs, h => by
    have h' : xs.all (keyOkN n) = true := h
    obtain ⟨ks, e, hd⟩ := nks_dep h'
    exact ⟨.tup ks, by simp [nk, e], by simp [KK.dep]; exact hd⟩
  | n, .non, h => by cases n <;> simp [keyOkN] at h
  | n, .lst _, h => by cases n <;> simp [keyOkN] at h
  | n, .dS _ _, h => by cases n <;> simp [keyOkN] at h
  | n, .dT _ _, h => by cases n <;> simp [keyOkN] at h
  | n, .ref _, h => by cases n <;> simp [keyOkN] at h
  | n, .scr _, h => by cases n <;> simp [keyOkN] at h
theorem nks_dep : ∀ {n : Nat} {xs : List D}, xs.all (keyOkN n) = true → ∃ ks, nks xs = some ks ∧ KK.deps ks ≤ n
  | n, [], _ => ⟨[], rfl, Nat.zero_le _⟩
  | n, x :: xs, h => by
    rw [List.all_cons, Bool.and_eq_true] at h
    obtain ⟨k, e1, h1⟩ := nk_dep h.1
    obtain ⟨ks, e2, h2⟩ := nks_dep h.2
    exact ⟨k :: ks, by simp [nks, e1, e2], by simp [KK.deps]; omega⟩
end
theorem isKey_nk {d : D} (h : isKey d = true) : ∃ k, nk d = some k ∧ k.dep ≤ 6 := by
  cases d with
  | tup xs =>
    have h' : xs.all (keyOkN 5) = true := h
    obtain ⟨ks, e, hd⟩ := nks_dep h'
    exact ⟨.tup ks, by simp [nk, e], by simp [KK.dep]; omega⟩
  | _ => simp [isKey] at h

section
variable {P : Program} {w : World} {K : PySem.W.Frag} {H H' : Hp} {L L' : Addr → Prop} {m m' : List Addr} {S S' : Store} {Z : Addr → Prop} {p a : Addr}
theorem SRep.mono (x : Mono H L m H' L' m') (e : H' a = H a) {o : SO} (h : SRep P w K H L m a o) : SRep P w K H' L' m' a o := by
  cases o with
  | lst xs =>
    obtain ⟨vs, h1, h2⟩ := h
    exact ⟨vs, e.trans h1, h2.mono x⟩
  | dS ks ds =>
    obtain ⟨vs, h1, h2, h3, h4⟩ := h
    exact ⟨vs, e.trans h1, h2, h3, h4.mono x⟩
  | dT ks ds =>
    obtain ⟨xs, vs, ⟨⟨o, es, ep, h1, h2⟩, h5, h6⟩, h7, h8, h9⟩ := h
    exact ⟨xs, vs, ⟨⟨o, es, ep, e.trans h1, h2⟩, h5, h6⟩, h7.mono x, h8.mono x, h9⟩
  | ins c fs => exact h
  | dead => trivial
theorem SRep.some {o : SO} (h : SRep P w K H L m a o) (hl : o.live = true) : H a ≠ none := by
  cases o with
  | lst xs => obtain ⟨vs, h1, _⟩ := h; rw [h1]; exact fun z => nomatch z
  | dS ks ds => obtain ⟨vs, h1, _⟩ := h; rw [h1]; exact fun z => nomatch z
  | dT ks ds => obtain ⟨xs, vs, ⟨⟨o, es, ep, h1, h2⟩, _⟩, _⟩ := h; rw [h1]; exact fun z => nomatch z
  | ins c fs => exact h.elim
  | dead => cases hl
theorem HR.notin (h : HR P w K Z m S H) (hp : H p = none) : p ∉ m := fun z => h.dom p z hp
theorem Lv.mem (h : Lv m S a) : a ∈ m := by
  obtain ⟨n, o, _, _, e⟩ := h
  exact List.mem_of_getElem? e
theorem HR.noLL (h : HR P w K Z m S H) (hp : H p = none) : ¬ LL Z m S p := fun z => z.elim (fun z => (h.z p z).1 hp) fun z => h.notin hp z.mem
theorem updne {H : Hp} {p b : Addr} {o : HO} {u : HO} (hp : H p = none) (hb : H b = some u) : upd H p o b = some u := by
  rw [upd_ne (ne_of_none hb hp)]; exact hb
/-- something new that the store does not know -/
theorem HR.ext (h : HR P w K Z m S H) (hp : H p = none) (o : HO) : Ext m S H m S (upd H p o) :=
  ⟨⟨[], by simp⟩, fun b u hb _ => updne hp hb, fun _ _ _ n => n⟩
theorem HR.fresh (h : HR P w K Z m S H) (hp : H p = none) (o : HO) : HR P w K Z m S (upd H p o) := by
  have x : Mono H (LL Z m S) m (upd H p o) (LL Z m S) m := (h.ext hp o).mono
  refine ⟨h.len, h.nd, fun a ha => ?_, fun a ha => ⟨?_, (h.z a ha).2⟩, fun n u a h1 h2 h3 => ?_⟩
  · rw [upd_ne (show a ≠ p from fun e => h.notin hp (by rw [← e]; exact ha))]; exact h.dom a ha
  · rw [upd_ne (show a ≠ p from fun e => (h.z a ha).1 (by rw [e]; exact hp))]; exact (h.z a ha).1
  · have hm : a ∈ m := List.mem_of_getElem? h3
    exact (h.obj n u a h1 h2 h3).mono x (upd_ne (show a ≠ p from fun e => h.notin hp (by rw [← e]; exact hm)))
theorem Rd.upd {H : Hp} {p : Addr} {o : HO} : Rd (upd H p o) p o := .inl upd_same
/-- a new tuple, a new list -/
theorem HR.tup (h : HR P w K Z m S H) (hp : H p = none) {ds : List D} {vs : List V} (r : Reps P w K H (LL Z m S) m ds vs) :
    Rep P w K (upd H p (.tup vs)) (LL Z m S) m (.tup ds) (.ref p) := ⟨p, vs, rfl, .inl ⟨Rd.upd, h.noLL hp⟩, r.mono (h.ext hp _).mono⟩
theorem HR.lst (h : HR P w K Z m S H) (hp : H p = none) {ds : List D} {vs : List V} (r : Reps P w K H (LL Z m S) m ds vs) :
    Rep P w K (upd H p (.lst vs)) (LL Z m S) m (.lst ds) (.ref p) := ⟨p, vs, rfl, ⟨upd_same, h.noLL hp⟩, r.mono (h.ext hp _).mono⟩
end
section
variable {X : Cx} {pins : List (Addr × Obj)} {σ : L2.St} {H : Hp} {s : Shared} {a : Addr}
theorem Inv.lstR {xs : List V} (I : Inv X pins σ H s) (h : H a = some (.lst xs)) : xs.length ≤ sizeLine ∧ ∃ (its : List Value) (n : Nat), Vals xs its ∧ xs.length = its.length ∧ s.heap.get? a = some { cls := .type "list", data := .seq its.toArray n } := by
  obtain ⟨z, its, n, r, e⟩ := I.hok a _ h
  exact ⟨z, its, n, r, r.length, e⟩
end
end KL
end
section
set_option Elab.async false
set_option linter.all false
set_option maxRecDepth 100000
set_option maxHeartbeats 2000000
set_option autoImplicit false
/-! KLOp: operators, comparisons, truth by data. -/
namespace KL
open PySem PySem.Spec PyProof.Rows L2

/-! ### == -/
def eqAtJ (f : D → D → Option Bool) (xs ys : List D) (j : Nat) : Bool := ((xs[j]?).bind fun x => (ys[j]?).bind fun y => f x y).getD false
theorem eqLs_item {f : D → D → Option Bool} : ∀ {xs ys : List D} {b : Bool}, eqLs f xs ys = some b → ∀ (j : Nat) (x y : D), xs[j]? = some x → ys[j]? = some y → f x y = some (eqAtJ f xs ys j)
  | [], _, _, _, j, x, y, h1, _ => by simp at h1
  | _ :: _, [], _, _, j, x, y, _, h2 => by simp at h2
  | x :: xs, y :: ys, b, h, 0, x', y', h1, h2 => by
    simp at h1 h2
    subst h1 h2
    unfold eqLs at h
    cases e : f x y with
    | none => rw [e] at h; cases h
    | some c => simp [eqAtJ, e]
  | x :: xs, y :: ys, b, h, j + 1, x', y', h1, h2 => by
    unfold eqLs at h
    cases e : f x y with
    | none => rw [e] at h; cases h
    | some c =>
      cases e2 : eqLs f xs ys with
      | none => rw [e, e2] at h; cases h
      | some d =>
        have := eqLs_item e2 j x' y' (by simpa using h1) (by simpa using h2)
        simpa [eqAtJ] using this
theorem all_succ (p : Nat → Bool) (n : Nat) : (List.range (n + 1)).all p = (p 0 && (List.range n).all fun j => p (j + 1)) := by
  rw [List.range_succ_eq_map, List.all_cons, List.all_map]
  rfl
theorem eqLs_all {f : D → D → Option Bool} : ∀ {xs ys : List D} {b : Bool}, eqLs f xs ys = some b → b = ((List.range (min xs.length ys.length)).all (eqAtJ f xs ys) && xs.length == ys.length)
  | [], [], b, h => by
    cases (show some true = some b from h); rfl
  | [], y :: ys, b, h => by
    cases (show some false = some b from h); simp
  | x :: xs, [], b, h => by
    cases (show some false = some b from h); simp
  | x :: xs, y :: ys, b, h => by
    unfold eqLs at h
    cases e : f x y with
    | none => rw [e] at h; cases h
    | some c =>
      cases e2 : eqLs f xs ys with
      | none => rw [e, e2] at h; cases h
      | some d =>
        rw [e, e2] at h
        have hb : (c && d) = b := Option.some.inj h
        have ih := eqLs_all e2
        rw [List.length_cons, List.length_cons, Nat.succ_min_succ, all_succ]
        have e3 : (fun j => eqAtJ f (x :: xs) (y :: ys) (j + 1)) = eqAtJ f xs ys := by
          funext j; simp [eqAtJ]
        rw [e3]
        have e4 : eqAtJ f (x :: xs) (y :: ys) 0 = c := by simp [eqAtJ, e]
        rw [e4, ← hb, ih, Bool.and_assoc]
        congr 2
        rw [Bool.eq_iff_iff]; simp
section
variable {X : Cx} {pins : List (Addr × Obj)} {σ : L2.St} {H : Hp} {s : Shared} {L : Addr → Prop} {m : List Addr}
abbrev RP (X : Cx) := Rep X.prog X.w X.K
abbrev RPs (X : Cx) := Reps X.prog X.w X.K
theorem TupAt.inj (I : Inv X pins σ H s) {a : Addr} {vs us : List V} (h : TupAt X.K H L a vs) (g : TupAt X.K H L a us) : vs = us := I.tuple_inj h.sq g.sq
theorem LstAt.inj (I : Inv X pins σ H s) {a : Addr} {vs us : List V} (h : LstAt H L a vs) (g : LstAt H L a us) : vs = us := I.list_inj (LstAt.sq (K := X.K) h) (LstAt.sq (K := X.K) g)
theorem eqLs_true {f : D → D → Option Bool} (g : D → V → Prop) (hf : ∀ d e v c, g d v → g e v → f d e = some c → c = true) : ∀ {xs ys : List D} {vs : List V} {b : Bool}, Paired g xs vs → Paired g ys vs → eqLs f xs ys = some b → b = true
  | [], [], _, b, _, _, h => (Option.some.inj (show some true = some b from h)).symm
  | [], _ :: _, _, _, h1, h2, _ => by cases h1; cases h2
  | _ :: _, [], _, _, h1, h2, _ => by cases h2; cases h1
  | x :: xs, y :: ys, _, b, .cons h1 t1, .cons h2 t2, h => by
    unfold eqLs at h
    cases e : f x y with
    | none => rw [e] at h; cases h
    | some c =>
      cases e2 : eqLs f xs ys with
      | none => rw [e, e2] at h; cases h
      | some d =>
        rw [e, e2] at h
        have hb : (c && d) = b := Option.some.inj h
        rw [← hb, hf _ _ _ _ h1 h2 e, eqLs_true g hf t1 t2 e2]; rfl
theorem Reps.paired {P : Program} {w : World} {K : PySem.W.Frag} : ∀ {ds : List D} {vs : List V}, Reps P w K H L m ds vs → Paired (Rep P w K H L m) ds vs
  | [], _, h => by rw [show _ = [] from h]; exact .nil
  | d :: ds, _, h => by
    obtain ⟨v, us, rfl, h1, h2⟩ := h
    exact .cons h1 (Reps.paired h2)
theorem eqN_same (I : Inv X pins σ H s) : ∀ (n : Nat) {d e : D} {x : V} {b : Bool}, RP X H L m d x → RP X H L m e x → eqN n d e = some b → b = true
  | 0, _, _, _, _, _, _, h => by cases h
  | n + 1, d, e, x, b, hd, he, h => by
    cases d <;> cases e <;> first
      | (cases (show some true = some b from h); rfl)
      | (cases (show none = some b from h))
      | skip
    case bl.bl p q =>
      have e1 : V.bl p = V.bl q := (show x = _ from hd).symm.trans he
      injection e1 with e1; subst e1
      have h : some (p == p) = some b := h
      simpa using (Option.some.inj h).symm
    case int.int p q =>
      have e1 : V.int p = V.int q := (show x = _ from hd).symm.trans he
      injection e1 with e1; subst e1
      have h : some (p == p) = some b := h
      simpa using (Option.some.inj h).symm
    case str.str p q =>
      have e1 : V.str (strV p) = V.str (strV q) := (show x = _ from hd).symm.trans he
      injection e1 with e1
      have e2 := strV_inj e1; subst e2
      have h : some (p == p) = some b := h
      simpa using (Option.some.inj h).symm
    case tup.tup p q =>
      obtain ⟨a, vs, rfl, h1, h2⟩ := hd
      obtain ⟨a', us, e1, h3, h4⟩ := he
      injection e1 with e1; subst e1
      rw [TupAt.inj I h3 h1] at h4
      exact eqLs_true (RP X H L m) (fun d e v c g1 g2 g3 => eqN_same I n g1 g2 g3) h2.paired h4.paired h
    case lst.lst p q =>
      obtain ⟨a, vs, rfl, h1, h2⟩ := hd
      obtain ⟨a', us, e1, h3, h4⟩ := he
      injection e1 with e1; subst e1
      rw [LstAt.inj I h3 h1] at h4
      exact eqLs_true (RP X H L m) (fun d e v c g1 g2 g3 => eqN_same I n g1 g2 g3) h2.paired h4.paired h
    case bl.int p q => cases (show x = _ from hd).symm.trans he
    case int.bl p q => cases (show x = _ from hd).symm.trans he
    case non.bl p => cases (show x = _ from hd).symm.trans he
    case non.int p => cases (show x = _ from hd).symm.trans he
    case non.str p => cases (show x = _ from hd).symm.trans he
    case non.tup p => obtain ⟨_, _, e1, _⟩ := he; cases (show x = _ from hd).symm.trans e1
    case non.lst p => obtain ⟨_, _, e1, _⟩ := he; cases (show x = _ from hd).symm.trans e1
    case bl.non p => cases (show x = _ from hd).symm.trans he
    case bl.str p q => cases (show x = _ from hd).symm.trans he
    case bl.tup p q => obtain ⟨_, _, e1, _⟩ := he; cases (show x = _ from hd).symm.trans e1
    case bl.lst p q => obtain ⟨_, _, e1, _⟩ := he; cases (show x = _ from hd).symm.trans e1
    case int.non p => cases (show x = _ from hd).symm.trans he
    case int.str p q => cases (show x = _ from hd).symm.trans he
    case int.tup p q => obtain ⟨_, _, e1, _⟩ := he; cases (show x = _ from hd).symm.trans e1
    case int.lst p q => obtain ⟨_, _, e1, _⟩ := he; cases (show x = _ from hd).symm.trans e1
    case str.non p => cases (show x = _ from hd).symm.trans he
    case str.bl p q => cases (show x = _ from hd).symm.trans he
    case str.int p q => cases (show x = _ from hd).symm.trans he
    case str.tup p q => obtain ⟨_, _, e1, _⟩ := he; cases (show x = _ from hd).symm.trans e1
    case str.lst p q => obtain ⟨_, _, e1, _⟩ := he; cases (show x = _ from hd).symm.trans e1
    case tup.non p => obtain ⟨_, _, e1, _⟩ := hd; cases (show x = _ from he).symm.trans e1
    case tup.bl p q => obtain ⟨_, _, e1, _⟩ := hd; cases (show x = _ from he).symm.trans e1
    case tup.int p q => obtain ⟨_, _, e1, _⟩ := hd; cases (show x = _ from he).symm.trans e1
    case tup.str p q => obtain ⟨_, _, e1, _⟩ := hd; cases (show x = _ from he).symm.trans e1
    case tup.lst p q =>
      obtain ⟨a, vs, rfl, h1, _⟩ := hd
      obtain ⟨a', us, e1, h2, _⟩ := he
      injection e1 with e1; subst e1
      obtain ⟨its, _, t1, _⟩ := I.tuple h1.sq
      obtain ⟨its', _, t2, _⟩ := I.list (LstAt.sq (K := X.K) h2)
      exact absurd rfl (SeqAt.ne_of_list_tuple (l := a) (b := a) t2.isList t1)
    case lst.non p => obtain ⟨_, _, e1, _⟩ := hd; cases (show x = _ from he).symm.trans e1
    case lst.bl p q => obtain ⟨_, _, e1, _⟩ := hd; cases (show x = _ from he).symm.trans e1
    case lst.int p q => obtain ⟨_, _, e1, _⟩ := hd; cases (show x = _ from he).symm.trans e1
    case lst.str p q => obtain ⟨_, _, e1, _⟩ := hd; cases (show x = _ from he).symm.trans e1
    case lst.tup p q =>
      obtain ⟨a, vs, rfl, h1, _⟩ := hd
      obtain ⟨a', us, e1, h2, _⟩ := he
      injection e1 with e1; subst e1
      obtain ⟨its, _, t1, _⟩ := I.tuple h2.sq
      obtain ⟨its', _, t2, _⟩ := I.list (LstAt.sq (K := X.K) h1)
      exact absurd rfl (SeqAt.ne_of_list_tuple (l := a) (b := a) t2.isList t1)
theorem strV_beq (s t : Txt) : (strV s == strV t) = (s == t) := by
  rw [Bool.eq_iff_iff]
  simp only [beq_iff_eq]
  exact ⟨strV_inj, fun e => by rw [e]⟩
theorem eqN_run (I : Inv X pins σ H s) : ∀ (n : Nat) {d e : D} {x y : V} {u v : Value} {b : Bool} {A : Around}, eqN n d e = some b → RP X H L m d x → RP X H L m e y → RelV x u → RelV y v → A.units + n < cLine → SeqAt.EqAt A s u v b
  | 0, _, _, _, _, _, _, _, _, h, _, _, _, _, _ => by cases h
  | n + 1, d, e, x, y, u, v, b, A, h, hd, he, ru, rv, hA => by
    have hu : A.units < cLine := Nat.lt_of_le_of_lt (Nat.le_add_right _ _) hA
    have items : ∀ {xs ys : List D} {vs us : List V} {its its' : List Value}, eqLs (eqN n) xs ys = some b → RPs X H L m xs vs → RPs X H L m ys us → Vals vs its → Vals us its' →
        ∀ j (h1 : j < its.toArray.size) (h2 : j < its'.toArray.size), SeqAt.EqAt A.in1 s its.toArray[j] its'.toArray[j] (eqAtJ (eqN n) xs ys j) := by
      intro xs ys vs us its its' hb r1 r2 v1 v2 j h1 h2
      have l1 := r1.length
      have l2 := r2.length
      have l3 := v1.length
      have l4 := v2.length
      simp only [List.size_toArray] at h1 h2
      have g1 : xs[j]? = some xs[j] := List.getElem?_eq_getElem (by omega)
      have g2 : ys[j]? = some ys[j] := List.getElem?_eq_getElem (by omega)
      obtain ⟨p, p1, p2⟩ := r1.at g1
      obtain ⟨q, q1, q2⟩ := r2.at g2
      obtain ⟨z, z1, z2⟩ := v1.get p1
      obtain ⟨t, t1, t2⟩ := v2.get q1
      have e1 : its.toArray[j] = z := by
        have : its[j]? = some its[j] := List.getElem?_eq_getElem h1
        rw [this] at z1
        simpa using Option.some.inj z1
      have e2 : its'.toArray[j] = t := by
        have : its'[j]? = some its'[j] := List.getElem?_eq_getElem h2
        rw [this] at t1
        simpa using Option.some.inj t1
      rw [e1, e2]
      exact eqN_run I n (eqLs_item hb j _ _ g1 g2) p2 q2 z2 t2 (by rw [in1_units]; omega)
    cases d <;> cases e <;> first
      | (cases (show none = some b from h); done)
      | skip
    case non.non =>
      cases (show some true = some b from h)
      cases (show x = _ from hd); cases (show y = _ from he); cases ru; cases rv
      exact SeqAt.EqAt.same _
    case bl.bl p q =>
      cases (show x = _ from hd); cases (show y = _ from he); cases ru; cases rv
      cases (show some (p == q) = some b from h)
      exact SeqAt.EqAt.bool_bool p q
    case int.int p q =>
      cases (show x = _ from hd); cases (show y = _ from he)
      obtain ⟨t, rfl⟩ := ru
      obtain ⟨t', rfl⟩ := rv
      cases (show some (p == q) = some b from h)
      exact SeqAt.EqAt.int_int p t q t'
    case bl.int p q =>
      cases (show x = _ from hd); cases (show y = _ from he); cases ru
      obtain ⟨t', rfl⟩ := rv
      cases (show some ((if p then 1 else 0) == q) = some b from h)
      exact SeqAt.EqAt.bool_int p q t'
    case int.bl p q =>
      cases (show x = _ from hd); cases (show y = _ from he); cases rv
      obtain ⟨t', rfl⟩ := ru
      cases (show some (p == (if q then 1 else 0)) = some b from h)
      exact SeqAt.EqAt.int_bool p t' q
    case str.str p q =>
      cases (show x = _ from hd); cases (show y = _ from he)
      obtain ⟨t, rfl⟩ := ru
      obtain ⟨t', rfl⟩ := rv
      cases (show some (p == q) = some b from h)
      rw [← strV_beq]
      exact SeqAt.EqAt.str_str _ t _ t'
    case tup.tup p q =>
      obtain ⟨a, vs, rfl, h1, h2⟩ := id hd
      obtain ⟨a', us, rfl, h3, h4⟩ := id he
      cases ru; cases rv
      by_cases hab : a = a'
      · subst hab
        rw [eqN_same I (n + 1) hd he h]
        exact SeqAt.EqAt.same _
      · obtain ⟨its, r1, t1, _⟩ := I.tuple h1.sq
        obtain ⟨its', r2, t2, _⟩ := I.tuple h3.sq
        have h' : eqLs (eqN n) p q = some b := h
        refine SeqAt.EqAt.of_refs hab ?_
        have z := SeqAt.RcAt.tuples (A := A) t1 t2 hu (items h' h2 h4 r1 r2)
        rw [List.size_toArray, List.size_toArray, ← r1.length, ← r2.length, ← h2.length, ← h4.length, ← eqLs_all h'] at z
        exact z
    case lst.lst p q =>
      obtain ⟨a, vs, rfl, h1, h2⟩ := id hd
      obtain ⟨a', us, rfl, h3, h4⟩ := id he
      cases ru; cases rv
      by_cases hab : a = a'
      · subst hab
        rw [eqN_same I (n + 1) hd he h]
        exact SeqAt.EqAt.same _
      · obtain ⟨its, r1, t1, _⟩ := I.list (LstAt.sq (K := X.K) h1)
        obtain ⟨its', r2, t2, _⟩ := I.list (LstAt.sq (K := X.K) h3)
        have h' : eqLs (eqN n) p q = some b := h
        refine SeqAt.EqAt.of_refs hab ?_
        have l1 : its.length = p.length := by rw [← r1.length, ← h2.length]
        have l2 : its'.length = q.length := by rw [← r2.length, ← h4.length]
        by_cases hl : p.length = q.length
        · have z := SeqAt.RcAt.lists (A := A) t1.isList t2.isList (by simp [l1, l2, hl]) hu (items h' h2 h4 r1 r2)
          have e := eqLs_all h'
          rw [← hl, Nat.min_self] at e
          rw [List.size_toArray, l1] at z
          have e2 : b = (List.range p.length).all (eqAtJ (eqN n) p q) := by rw [e]; simp
          rw [e2]
          exact z
        · have e := eqLs_all h'
          have e2 : b = false := by rw [e]; simp [hl]
          rw [e2]
          exact SeqAt.RcAt.lists_lengths t1.isList t2.isList (by simp [l1, l2, hl]) hu
    case non.bl  q =>
      cases (show some false = some b from h)
      cases (show x = _ from hd); cases ru
      cases (show y = _ from he); cases rv
      exact SeqAt.EqAt.none_bool  q
    case non.int  q =>
      cases (show some false = some b from h)
      cases (show x = _ from hd); cases ru
      cases (show y = _ from he)
      obtain ⟨t2, rfl⟩ := rv
      exact SeqAt.EqAt.none_int  q t2
    case non.str  q =>
      cases (show some false = some b from h)
      cases (show x = _ from hd); cases ru
      cases (show y = _ from he)
      obtain ⟨t2, rfl⟩ := rv
      exact SeqAt.EqAt.none_str  _ t2
    case non.tup  q =>
      cases (show some false = some b from h)
      cases (show x = _ from hd); cases ru
      obtain ⟨at2, vst2, rfl, ht2, _⟩ := he
      cases rv
      obtain ⟨it2, _, g2, _⟩ := I.tuple ht2.sq
      exact SeqAt.EqAt.none_tuple g2 hu
    case non.lst  q =>
      cases (show some false = some b from h)
      cases (show x = _ from hd); cases ru
      obtain ⟨at2, vst2, rfl, ht2, _⟩ := he
      cases rv
      obtain ⟨it2, _, g2, _⟩ := I.list (LstAt.sq (K := X.K) ht2)
      exact SeqAt.EqAt.none_list g2.isList hu
    case bl.non p =>
      cases (show some false = some b from h)
      cases (show x = _ from hd); cases ru
      cases (show y = _ from he); cases rv
      exact SeqAt.EqAt.bool_none p
    case bl.str p q =>
      cases (show some false = some b from h)
      cases (show x = _ from hd); cases ru
      cases (show y = _ from he)
      obtain ⟨t2, rfl⟩ := rv
      exact SeqAt.EqAt.bool_str p _ t2
    case bl.tup p q =>
      cases (show some false = some b from h)
      cases (show x = _ from hd); cases ru
      obtain ⟨at2, vst2, rfl, ht2, _⟩ := he
      cases rv
      obtain ⟨it2, _, g2, _⟩ := I.tuple ht2.sq
      exact SeqAt.EqAt.bool_tuple p g2 hu
    case bl.lst p q =>
      cases (show some false = some b from h)
      cases (show x = _ from hd); cases ru
      obtain ⟨at2, vst2, rfl, ht2, _⟩ := he
      cases rv
      obtain ⟨it2, _, g2, _⟩ := I.list (LstAt.sq (K := X.K) ht2)
      exact SeqAt.EqAt.bool_list p g2.isList hu
    case int.non p =>
      cases (show some false = some b from h)
      cases (show x = _ from hd)
      obtain ⟨t1, rfl⟩ := ru
      cases (show y = _ from he); cases rv
      exact SeqAt.EqAt.int_none p t1
    case int.str p q =>
      cases (show some false = some b from h)
      cases (show x = _ from hd)
      obtain ⟨t1, rfl⟩ := ru
      cases (show y = _ from he)
      obtain ⟨t2, rfl⟩ := rv
      exact SeqAt.EqAt.int_str p t1 _ t2
    case int.tup p q =>
      cases (show some false = some b from h)
      cases (show x = _ from hd)
      obtain ⟨t1, rfl⟩ := ru
      obtain ⟨at2, vst2, rfl, ht2, _⟩ := he
      cases rv
      obtain ⟨it2, _, g2, _⟩ := I.tuple ht2.sq
      exact SeqAt.EqAt.int_tuple p t1 g2 hu
    case int.lst p q =>
      cases (show some false = some b from h)
      cases (show x = _ from hd)
      obtain ⟨t1, rfl⟩ := ru
      obtain ⟨at2, vst2, rfl, ht2, _⟩ := he
      cases rv
      obtain ⟨it2, _, g2, _⟩ := I.list (LstAt.sq (K := X.K) ht2)
      exact SeqAt.EqAt.int_list p t1 g2.isList hu
    case str.non p =>
      cases (show some false = some b from h)
      cases (show x = _ from hd)
      obtain ⟨t1, rfl⟩ := ru
      cases (show y = _ from he); cases rv
      exact SeqAt.EqAt.str_none _ t1
    case str.bl p q =>
      cases (show some false = some b from h)
      cases (show x = _ from hd)
      obtain ⟨t1, rfl⟩ := ru
      cases (show y = _ from he); cases rv
      exact SeqAt.EqAt.str_bool _ t1 q
    case str.int p q =>
      cases (show some false = some b from h)
      cases (show x = _ from hd)
      obtain ⟨t1, rfl⟩ := ru
      cases (show y = _ from he)
      obtain ⟨t2, rfl⟩ := rv
      exact SeqAt.EqAt.str_int _ t1 q t2
    case str.tup p q =>
      cases (show some false = some b from h)
      cases (show x = _ from hd)
      obtain ⟨t1, rfl⟩ := ru
      obtain ⟨at2, vst2, rfl, ht2, _⟩ := he
      cases rv
      obtain ⟨it2, _, g2, _⟩ := I.tuple ht2.sq
      exact SeqAt.EqAt.str_tuple _ t1 g2 hu
    case str.lst p q =>
      cases (show some false = some b from h)
      cases (show x = _ from hd)
      obtain ⟨t1, rfl⟩ := ru
      obtain ⟨at2, vst2, rfl, ht2, _⟩ := he
      cases rv
      obtain ⟨it2, _, g2, _⟩ := I.list (LstAt.sq (K := X.K) ht2)
      exact SeqAt.EqAt.str_list _ t1 g2.isList hu
    case tup.non p =>
      cases (show some false = some b from h)
      obtain ⟨at1, vst1, rfl, ht1, _⟩ := hd
      cases ru
      obtain ⟨it1, _, g1, _⟩ := I.tuple ht1.sq
      cases (show y = _ from he); cases rv
      exact SeqAt.EqAt.tuple_none g1 hu
    case tup.bl p q =>
      cases (show some false = some b from h)
      obtain ⟨at1, vst1, rfl, ht1, _⟩ := hd
      cases ru
      obtain ⟨it1, _, g1, _⟩ := I.tuple ht1.sq
      cases (show y = _ from he); cases rv
      exact SeqAt.EqAt.tuple_bool q g1 hu
    case tup.int p q =>
      cases (show some false = some b from h)
      obtain ⟨at1, vst1, rfl, ht1, _⟩ := hd
      cases ru
      obtain ⟨it1, _, g1, _⟩ := I.tuple ht1.sq
      cases (show y = _ from he)
      obtain ⟨t2, rfl⟩ := rv
      exact SeqAt.EqAt.tuple_int q t2 g1 hu
    case tup.str p q =>
      cases (show some false = some b from h)
      obtain ⟨at1, vst1, rfl, ht1, _⟩ := hd
      cases ru
      obtain ⟨it1, _, g1, _⟩ := I.tuple ht1.sq
      cases (show y = _ from he)
      obtain ⟨t2, rfl⟩ := rv
      exact SeqAt.EqAt.tuple_str _ t2 g1 hu
    case tup.lst p q =>
      cases (show some false = some b from h)
      obtain ⟨at1, vst1, rfl, ht1, _⟩ := hd
      cases ru
      obtain ⟨it1, _, g1, _⟩ := I.tuple ht1.sq
      obtain ⟨at2, vst2, rfl, ht2, _⟩ := he
      cases rv
      obtain ⟨it2, _, g2, _⟩ := I.list (LstAt.sq (K := X.K) ht2)
      exact SeqAt.EqAt.tuple_list g1 g2.isList hu
    case lst.non p =>
      cases (show some false = some b from h)
      obtain ⟨at1, vst1, rfl, ht1, _⟩ := hd
      cases ru
      obtain ⟨it1, _, g1, _⟩ := I.list (LstAt.sq (K := X.K) ht1)
      cases (show y = _ from he); cases rv
      exact SeqAt.EqAt.list_none g1.isList hu
    case lst.bl p q =>
      cases (show some false = some b from h)
      obtain ⟨at1, vst1, rfl, ht1, _⟩ := hd
      cases ru
      obtain ⟨it1, _, g1, _⟩ := I.list (LstAt.sq (K := X.K) ht1)
      cases (show y = _ from he); cases rv
      exact SeqAt.EqAt.list_bool q g1.isList hu
    case lst.int p q =>
      cases (show some false = some b from h)
      obtain ⟨at1, vst1, rfl, ht1, _⟩ := hd
      cases ru
      obtain ⟨it1, _, g1, _⟩ := I.list (LstAt.sq (K := X.K) ht1)
      cases (show y = _ from he)
      obtain ⟨t2, rfl⟩ := rv
      exact SeqAt.EqAt.list_int q t2 g1.isList hu
    case lst.str p q =>
      cases (show some false = some b from h)
      obtain ⟨at1, vst1, rfl, ht1, _⟩ := hd
      cases ru
      obtain ⟨it1, _, g1, _⟩ := I.list (LstAt.sq (K := X.K) ht1)
      cases (show y = _ from he)
      obtain ⟨t2, rfl⟩ := rv
      exact SeqAt.EqAt.list_str _ t2 g1.isList hu
    case lst.tup p q =>
      cases (show some false = some b from h)
      obtain ⟨at1, vst1, rfl, ht1, _⟩ := hd
      cases ru
      obtain ⟨it1, _, g1, _⟩ := I.list (LstAt.sq (K := X.K) ht1)
      obtain ⟨at2, vst2, rfl, ht2, _⟩ := he
      cases rv
      obtain ⟨it2, _, g2, _⟩ := I.tuple ht2.sq
      exact SeqAt.EqAt.list_tuple g1.isList g2 hu
theorem eqN_items (I : Inv X pins σ H s) (n : Nat) {A : Around} (hA : A.units + (n + 1) < cLine) {b : Bool} {xs ys : List D} {vs us : List V} {its its' : List Value} (hb : eqLs (eqN n) xs ys = some b) (r1 : RPs X H L m xs vs) (r2 : RPs X H L m ys us) (v1 : Vals vs its) (v2 : Vals us its') :
    ∀ j (h1 : j < its.toArray.size) (h2 : j < its'.toArray.size), SeqAt.EqAt A.in1 s its.toArray[j] its'.toArray[j] (eqAtJ (eqN n) xs ys j) := by
  intro j h1 h2
  have l1 := r1.length
  have l2 := r2.length
  have l3 := v1.length
  have l4 := v2.length
  simp only [List.size_toArray] at h1 h2
  have g1 : xs[j]? = some xs[j] := List.getElem?_eq_getElem (by omega)
  have g2 : ys[j]? = some ys[j] := List.getElem?_eq_getElem (by omega)
  obtain ⟨p, p1, p2⟩ := r1.at g1
  obtain ⟨q, q1, q2⟩ := r2.at g2
  obtain ⟨z, z1, z2⟩ := v1.get p1
  obtain ⟨t, t1, t2⟩ := v2.get q1
  have e1 : its.toArray[j] = z := by
    have : its[j]? = some its[j] := List.getElem?_eq_getElem h1
    rw [this] at z1
    simpa using Option.some.inj z1
  have e2 : its'.toArray[j] = t := by
    have : its'[j]? = some its'[j] := List.getElem?_eq_getElem h2
    rw [this] at t1
    simpa using Option.some.inj t1
  rw [e1, e2]
  exact eqN_run I n (eqLs_item hb j _ _ g1 g2) p2 q2 z2 t2 (by rw [in1_units]; omega)
theorem rcEq_run (I : Inv X pins σ H s) (n : Nat) {d e : D} {x y : V} {u v : Value} {b : Bool} {A : Around} (h : eqN (n + 1) d e = some b) (hd : RP X H L m d x) (he : RP X H L m e y) (ru : RelV x u) (rv : RelV y v) (hA : A.units + (n + 1) < cLine) : SeqAt.RcAt A s u v (b) := by
  have hu : A.units < cLine := Nat.lt_of_le_of_lt (Nat.le_add_right _ _) hA
  cases d <;> cases e <;> first
    | (cases (show none = some b from h); done)
    | skip
  case tup.tup p q =>
    obtain ⟨a, vs, rfl, h1, h2⟩ := id hd
    obtain ⟨a', us, rfl, h3, h4⟩ := id he
    cases ru; cases rv
    obtain ⟨its, r1, t1, _⟩ := I.tuple h1.sq
    obtain ⟨its', r2, t2, _⟩ := I.tuple h3.sq
    have h' : eqLs (eqN n) p q = some b := h
    have z := SeqAt.RcAt.tuples (A := A) t1 t2 hu (eqN_items I n hA h' h2 h4 r1 r2)
    rw [List.size_toArray, List.size_toArray, ← r1.length, ← r2.length, ← h2.length, ← h4.length, ← eqLs_all h'] at z
    exact z
  case lst.lst p q =>
    obtain ⟨a, vs, rfl, h1, h2⟩ := id hd
    obtain ⟨a', us, rfl, h3, h4⟩ := id he
    cases ru; cases rv
    obtain ⟨its, r1, t1, _⟩ := I.list (LstAt.sq (K := X.K) h1)
    obtain ⟨its', r2, t2, _⟩ := I.list (LstAt.sq (K := X.K) h3)
    have h' : eqLs (eqN n) p q = some b := h
    have l1 : its.length = p.length := by rw [← r1.length, ← h2.length]
    have l2 : its'.length = q.length := by rw [← r2.length, ← h4.length]
    have e := eqLs_all h'
    by_cases hl : p.length = q.length
    · have z := SeqAt.RcAt.lists (A := A) t1.isList t2.isList (by simp [l1, l2, hl]) hu (eqN_items I n hA h' h2 h4 r1 r2)
      rw [← hl, Nat.min_self] at e
      rw [List.size_toArray, l1] at z
      have e2 : b = (List.range p.length).all (eqAtJ (eqN n) p q) := by rw [e]; simp
      rw [e2]
      exact z
    · have e2 : b = false := by rw [e]; simp [hl]
      rw [e2]
      exact SeqAt.RcAt.lists_lengths t1.isList t2.isList (by simp [l1, l2, hl]) hu
  case non.non =>
    cases (show some true = some b from h)
    cases (show x = _ from hd); cases ru
    cases (show y = _ from he); cases rv
    exact SeqAt.RcAt.none_none
  case non.bl  q =>
    cases (show some false = some b from h)
    cases (show x = _ from hd); cases ru
    cases (show y = _ from he); cases rv
    exact SeqAt.RcAt.none_bool  q
  case non.int  q =>
    cases (show some false = some b from h)
    cases (show x = _ from hd); cases ru
    cases (show y = _ from he)
    obtain ⟨t2, rfl⟩ := rv
    exact SeqAt.RcAt.none_int  q t2
  case non.str  q =>
    cases (show some false = some b from h)
    cases (show x = _ from hd); cases ru
    cases (show y = _ from he)
    obtain ⟨t2, rfl⟩ := rv
    exact SeqAt.RcAt.none_str  _ t2
  case non.tup  q =>
    cases (show some false = some b from h)
    cases (show x = _ from hd); cases ru
    obtain ⟨at2, vst2, rfl, ht2, _⟩ := he
    cases rv
    obtain ⟨it2, _, g2, _⟩ := I.tuple ht2.sq
    exact SeqAt.RcAt.none_tuple g2 hu
  case non.lst  q =>
    cases (show some false = some b from h)
    cases (show x = _ from hd); cases ru
    obtain ⟨at2, vst2, rfl, ht2, _⟩ := he
    cases rv
    obtain ⟨it2, _, g2, _⟩ := I.list (LstAt.sq (K := X.K) ht2)
    exact SeqAt.RcAt.none_list g2.isList hu
  case bl.non p =>
    cases (show some false = some b from h)
    cases (show x = _ from hd); cases ru
    cases (show y = _ from he); cases rv
    exact SeqAt.RcAt.bool_none p
  case bl.bl p q =>
    cases (show some (p == q) = some b from h)
    cases (show x = _ from hd); cases ru
    cases (show y = _ from he); cases rv
    exact SeqAt.RcAt.bool_bool p q
  case bl.int p q =>
    cases (show some ((if p then 1 else 0) == q) = some b from h)
    cases (show x = _ from hd); cases ru
    cases (show y = _ from he)
    obtain ⟨t2, rfl⟩ := rv
    exact SeqAt.RcAt.bool_int p q t2
  case bl.str p q =>
    cases (show some false = some b from h)
    cases (show x = _ from hd); cases ru
    cases (show y = _ from he)
    obtain ⟨t2, rfl⟩ := rv
    exact SeqAt.RcAt.bool_str p _ t2
  case bl.tup p q =>
    cases (show some false = some b from h)
    cases (show x = _ from hd); cases ru
    obtain ⟨at2, vst2, rfl, ht2, _⟩ := he
    cases rv
    obtain ⟨it2, _, g2, _⟩ := I.tuple ht2.sq
    exact SeqAt.RcAt.bool_tuple p g2 hu
  case bl.lst p q =>
    cases (show some false = some b from h)
    cases (show x = _ from hd); cases ru
    obtain ⟨at2, vst2, rfl, ht2, _⟩ := he
    cases rv
    obtain ⟨it2, _, g2, _⟩ := I.list (LstAt.sq (K := X.K) ht2)
    exact SeqAt.RcAt.bool_list p g2.isList hu
  case int.non p =>
    cases (show some false = some b from h)
    cases (show x = _ from hd)
    obtain ⟨t1, rfl⟩ := ru
    cases (show y = _ from he); cases rv
    exact SeqAt.RcAt.int_none p t1
  case int.bl p q =>
    cases (show some (p == (if q then 1 else 0)) = some b from h)
    cases (show x = _ from hd)
    obtain ⟨t1, rfl⟩ := ru
    cases (show y = _ from he); cases rv
    exact SeqAt.RcAt.int_bool p t1 q
  case int.int p q =>
    cases (show some (p == q) = some b from h)
    cases (show x = _ from hd)
    obtain ⟨t1, rfl⟩ := ru
    cases (show y = _ from he)
    obtain ⟨t2, rfl⟩ := rv
    exact SeqAt.RcAt.int_int p t1 q t2
  case int.str p q =>
    cases (show some false = some b from h)
    cases (show x = _ from hd)
    obtain ⟨t1, rfl⟩ := ru
    cases (show y = _ from he)
    obtain ⟨t2, rfl⟩ := rv
    exact SeqAt.RcAt.int_str p t1 _ t2
  case int.tup p q =>
    cases (show some false = some b from h)
    cases (show x = _ from hd)
    obtain ⟨t1, rfl⟩ := ru
    obtain ⟨at2, vst2, rfl, ht2, _⟩ := he
    cases rv
    obtain ⟨it2, _, g2, _⟩ := I.tuple ht2.sq
    exact SeqAt.RcAt.int_tuple p t1 g2 hu
  case int.lst p q =>
    cases (show some false = some b from h)
    cases (show x = _ from hd)
    obtain ⟨t1, rfl⟩ := ru
    obtain ⟨at2, vst2, rfl, ht2, _⟩ := he
    cases rv
    obtain ⟨it2, _, g2, _⟩ := I.list (LstAt.sq (K := X.K) ht2)
    exact SeqAt.RcAt.int_list p t1 g2.isList hu
  case str.non p =>
    cases (show some false = some b from h)
    cases (show x = _ from hd)
    obtain ⟨t1, rfl⟩ := ru
    cases (show y = _ from he); cases rv
    exact SeqAt.RcAt.str_none _ t1
  case str.bl p q =>
    cases (show some false = some b from h)
    cases (show x = _ from hd)
    obtain ⟨t1, rfl⟩ := ru
    cases (show y = _ from he); cases rv
    exact SeqAt.RcAt.str_bool _ t1 q
  case str.int p q =>
    cases (show some false = some b from h)
    cases (show x = _ from hd)
    obtain ⟨t1, rfl⟩ := ru
    cases (show y = _ from he)
    obtain ⟨t2, rfl⟩ := rv
    exact SeqAt.RcAt.str_int _ t1 q t2
  case str.str p q =>
    cases (show some (p == q) = some b from h)
    cases (show x = _ from hd)
    obtain ⟨t1, rfl⟩ := ru
    cases (show y = _ from he)
    obtain ⟨t2, rfl⟩ := rv
    rw [← strV_beq]
    exact SeqAt.RcAt.str_str _ t1 _ t2
  case str.tup p q =>
    cases (show some false = some b from h)
    cases (show x = _ from hd)
    obtain ⟨t1, rfl⟩ := ru
    obtain ⟨at2, vst2, rfl, ht2, _⟩ := he
    cases rv
    obtain ⟨it2, _, g2, _⟩ := I.tuple ht2.sq
    exact SeqAt.RcAt.str_tuple _ t1 g2 hu
  case str.lst p q =>
    cases (show some false = some b from h)
    cases (show x = _ from hd)
    obtain ⟨t1, rfl⟩ := ru
    obtain ⟨at2, vst2, rfl, ht2, _⟩ := he
    cases rv
    obtain ⟨it2, _, g2, _⟩ := I.list (LstAt.sq (K := X.K) ht2)
    exact SeqAt.RcAt.str_list _ t1 g2.isList hu
  case tup.non p =>
    cases (show some false = some b from h)
    obtain ⟨at1, vst1, rfl, ht1, _⟩ := hd
    cases ru
    obtain ⟨it1, _, g1, _⟩ := I.tuple ht1.sq
    cases (show y = _ from he); cases rv
    exact SeqAt.RcAt.tuple_none g1 hu
  case tup.bl p q =>
    cases (show some false = some b from h)
    obtain ⟨at1, vst1, rfl, ht1, _⟩ := hd
    cases ru
    obtain ⟨it1, _, g1, _⟩ := I.tuple ht1.sq
    cases (show y = _ from he); cases rv
    exact SeqAt.RcAt.tuple_bool q g1 hu
  case tup.int p q =>
    cases (show some false = some b from h)
    obtain ⟨at1, vst1, rfl, ht1, _⟩ := hd
    cases ru
    obtain ⟨it1, _, g1, _⟩ := I.tuple ht1.sq
    cases (show y = _ from he)
    obtain ⟨t2, rfl⟩ := rv
    exact SeqAt.RcAt.tuple_int q t2 g1 hu
  case tup.str p q =>
    cases (show some false = some b from h)
    obtain ⟨at1, vst1, rfl, ht1, _⟩ := hd
    cases ru
    obtain ⟨it1, _, g1, _⟩ := I.tuple ht1.sq
    cases (show y = _ from he)
    obtain ⟨t2, rfl⟩ := rv
    exact SeqAt.RcAt.tuple_str _ t2 g1 hu
  case tup.lst p q =>
    cases (show some false = some b from h)
    obtain ⟨at1, vst1, rfl, ht1, _⟩ := hd
    cases ru
    obtain ⟨it1, _, g1, _⟩ := I.tuple ht1.sq
    obtain ⟨at2, vst2, rfl, ht2, _⟩ := he
    cases rv
    obtain ⟨it2, _, g2, _⟩ := I.list (LstAt.sq (K := X.K) ht2)
    exact SeqAt.RcAt.tuple_list g1 g2.isList hu
  case lst.non p =>
    cases (show some false = some b from h)
    obtain ⟨at1, vst1, rfl, ht1, _⟩ := hd
    cases ru
    obtain ⟨it1, _, g1, _⟩ := I.list (LstAt.sq (K := X.K) ht1)
    cases (show y = _ from he); cases rv
    exact SeqAt.RcAt.list_none g1.isList hu
  case lst.bl p q =>
    cases (show some false = some b from h)
    obtain ⟨at1, vst1, rfl, ht1, _⟩ := hd
    cases ru
    obtain ⟨it1, _, g1, _⟩ := I.list (LstAt.sq (K := X.K) ht1)
    cases (show y = _ from he); cases rv
    exact SeqAt.RcAt.list_bool q g1.isList hu
  case lst.int p q =>
    cases (show some false = some b from h)
    obtain ⟨at1, vst1, rfl, ht1, _⟩ := hd
    cases ru
    obtain ⟨it1, _, g1, _⟩ := I.list (LstAt.sq (K := X.K) ht1)
    cases (show y = _ from he)
    obtain ⟨t2, rfl⟩ := rv
    exact SeqAt.RcAt.list_int q t2 g1.isList hu
  case lst.str p q =>
    cases (show some false = some b from h)
    obtain ⟨at1, vst1, rfl, ht1, _⟩ := hd
    cases ru
    obtain ⟨it1, _, g1, _⟩ := I.list (LstAt.sq (K := X.K) ht1)
    cases (show y = _ from he)
    obtain ⟨t2, rfl⟩ := rv
    exact SeqAt.RcAt.list_str _ t2 g1.isList hu
  case lst.tup p q =>
    cases (show some false = some b from h)
    obtain ⟨at1, vst1, rfl, ht1, _⟩ := hd
    cases ru
    obtain ⟨it1, _, g1, _⟩ := I.list (LstAt.sq (K := X.K) ht1)
    obtain ⟨at2, vst2, rfl, ht2, _⟩ := he
    cases rv
    obtain ⟨it2, _, g2, _⟩ := I.tuple ht2.sq
    exact SeqAt.RcAt.list_tuple g1.isList g2 hu
theorem rcNe_run (I : Inv X pins σ H s) (n : Nat) {d e : D} {x y : V} {u v : Value} {b : Bool} {A : Around} (h : eqN (n + 1) d e = some b) (hd : RP X H L m d x) (he : RP X H L m e y) (ru : RelV x u) (rv : RelV y v) (hA : A.units + (n + 1) < cLine) : SeqAt.RcNeAt A s u v (!b) := by
  have hu : A.units < cLine := Nat.lt_of_le_of_lt (Nat.le_add_right _ _) hA
  cases d <;> cases e <;> first
    | (cases (show none = some b from h); done)
    | skip
  case tup.tup p q =>
    obtain ⟨a, vs, rfl, h1, h2⟩ := id hd
    obtain ⟨a', us, rfl, h3, h4⟩ := id he
    cases ru; cases rv
    obtain ⟨its, r1, t1, _⟩ := I.tuple h1.sq
    obtain ⟨its', r2, t2, _⟩ := I.tuple h3.sq
    have h' : eqLs (eqN n) p q = some b := h
    have z := SeqAt.RcNeAt.tuples (A := A) t1 t2 hu (eqN_items I n hA h' h2 h4 r1 r2)
    rw [List.size_toArray, List.size_toArray, ← r1.length, ← r2.length, ← h2.length, ← h4.length, ← eqLs_all h'] at z
    exact z
  case lst.lst p q =>
    obtain ⟨a, vs, rfl, h1, h2⟩ := id hd
    obtain ⟨a', us, rfl, h3, h4⟩ := id he
    cases ru; cases rv
    obtain ⟨its, r1, t1, _⟩ := I.list (LstAt.sq (K := X.K) h1)
    obtain ⟨its', r2, t2, _⟩ := I.list (LstAt.sq (K := X.K) h3)
    have h' : eqLs (eqN n) p q = some b := h
    have l1 : its.length = p.length := by rw [← r1.length, ← h2.length]
    have l2 : its'.length = q.length := by rw [← r2.length, ← h4.length]
    have e := eqLs_all h'
    by_cases hl : p.length = q.length
    · have z := SeqAt.RcNeAt.lists (A := A) t1.isList t2.isList (by simp [l1, l2, hl]) hu (eqN_items I n hA h' h2 h4 r1 r2)
      rw [← hl, Nat.min_self] at e
      rw [List.size_toArray, l1] at z
      have e2 : b = (List.range p.length).all (eqAtJ (eqN n) p q) := by rw [e]; simp
      rw [e2]
      exact z
    · have e2 : b = false := by rw [e]; simp [hl]
      rw [e2]
      exact SeqAt.RcNeAt.lists_lengths t1.isList t2.isList (by simp [l1, l2, hl]) hu
  case non.non =>
    cases (show some true = some b from h)
    cases (show x = _ from hd); cases ru
    cases (show y = _ from he); cases rv
    exact SeqAt.RcNeAt.none_none
  case non.bl  q =>
    cases (show some false = some b from h)
    cases (show x = _ from hd); cases ru
    cases (show y = _ from he); cases rv
    exact SeqAt.RcNeAt.none_bool  q
  case non.int  q =>
    cases (show some false = some b from h)
    cases (show x = _ from hd); cases ru
    cases (show y = _ from he)
    obtain ⟨t2, rfl⟩ := rv
    exact SeqAt.RcNeAt.none_int  q t2
  case non.str  q =>
    cases (show some false = some b from h)
    cases (show x = _ from hd); cases ru
    cases (show y = _ from he)
    obtain ⟨t2, rfl⟩ := rv
    exact SeqAt.RcNeAt.none_str  _ t2
  case non.tup  q =>
    cases (show some false = some b from h)
    cases (show x = _ from hd); cases ru
    obtain ⟨at2, vst2, rfl, ht2, _⟩ := he
    cases rv
    obtain ⟨it2, _, g2, _⟩ := I.tuple ht2.sq
    exact SeqAt.RcNeAt.none_tuple g2 hu
  case non.lst  q =>
    cases (show some false = some b from h)
    cases (show x = _ from hd); cases ru
    obtain ⟨at2, vst2, rfl, ht2, _⟩ := he
    cases rv
    obtain ⟨it2, _, g2, _⟩ := I.list (LstAt.sq (K := X.K) ht2)
    exact SeqAt.RcNeAt.none_list g2.isList hu
  case bl.non p =>
    cases (show some false = some b from h)
    cases (show x = _ from hd); cases ru
    cases (show y = _ from he); cases rv
    exact SeqAt.RcNeAt.bool_none p
  case bl.bl p q =>
    cases (show some (p == q) = some b from h)
    cases (show x = _ from hd); cases ru
    cases (show y = _ from he); cases rv
    exact SeqAt.RcNeAt.bool_bool p q
  case bl.int p q =>
    cases (show some ((if p then 1 else 0) == q) = some b from h)
    cases (show x = _ from hd); cases ru
    cases (show y = _ from he)
    obtain ⟨t2, rfl⟩ := rv
    exact SeqAt.RcNeAt.bool_int p q t2
  case bl.str p q =>
    cases (show some false = some b from h)
    cases (show x = _ from hd); cases ru
    cases (show y = _ from he)
    obtain ⟨t2, rfl⟩ := rv
    exact SeqAt.RcNeAt.bool_str p _ t2
  case bl.tup p q =>
    cases (show some false = some b from h)
    cases (show x = _ from hd); cases ru
    obtain ⟨at2, vst2, rfl, ht2, _⟩ := he
    cases rv
    obtain ⟨it2, _, g2, _⟩ := I.tuple ht2.sq
    exact SeqAt.RcNeAt.bool_tuple p g2 hu
  case bl.lst p q =>
    cases (show some false = some b from h)
    cases (show x = _ from hd); cases ru
    obtain ⟨at2, vst2, rfl, ht2, _⟩ := he
    cases rv
    obtain ⟨it2, _, g2, _⟩ := I.list (LstAt.sq (K := X.K) ht2)
    exact SeqAt.RcNeAt.bool_list p g2.isList hu
  case int.non p =>
    cases (show some false = some b from h)
    cases (show x = _ from hd)
    obtain ⟨t1, rfl⟩ := ru
    cases (show y = _ from he); cases rv
    exact SeqAt.RcNeAt.int_none p t1
  case int.bl p q =>
    cases (show some (p == (if q then 1 else 0)) = some b from h)
    cases (show x = _ from hd)
    obtain ⟨t1, rfl⟩ := ru
    cases (show y = _ from he); cases rv
    exact SeqAt.RcNeAt.int_bool p t1 q
  case int.int p q =>
    cases (show some (p == q) = some b from h)
    cases (show x = _ from hd)
    obtain ⟨t1, rfl⟩ := ru
    cases (show y = _ from he)
    obtain ⟨t2, rfl⟩ := rv
    exact SeqAt.RcNeAt.int_int p t1 q t2
  case int.str p q =>
    cases (show some false = some b from h)
    cases (show x = _ from hd)
    obtain ⟨t1, rfl⟩ := ru
    cases (show y = _ from he)
    obtain ⟨t2, rfl⟩ := rv
    exact SeqAt.RcNeAt.int_str p t1 _ t2
  case int.tup p q =>
    cases (show some false = some b from h)
    cases (show x = _ from hd)
    obtain ⟨t1, rfl⟩ := ru
    obtain ⟨at2, vst2, rfl, ht2, _⟩ := he
    cases rv
    obtain ⟨it2, _, g2, _⟩ := I.tuple ht2.sq
    exact SeqAt.RcNeAt.int_tuple p t1 g2 hu
  case int.lst p q =>
    cases (show some false = some b from h)
    cases (show x = _ from hd)
    obtain ⟨t1, rfl⟩ := ru
    obtain ⟨at2, vst2, rfl, ht2, _⟩ := he
    cases rv
    obtain ⟨it2, _, g2, _⟩ := I.list (LstAt.sq (K := X.K) ht2)
    exact SeqAt.RcNeAt.int_list p t1 g2.isList hu
  case str.non p =>
    cases (show some false = some b from h)
    cases (show x = _ from hd)
    obtain ⟨t1, rfl⟩ := ru
    cases (show y = _ from he); cases rv
    exact SeqAt.RcNeAt.str_none _ t1
  case str.bl p q =>
    cases (show some false = some b from h)
    cases (show x = _ from hd)
    obtain ⟨t1, rfl⟩ := ru
    cases (show y = _ from he); cases rv
    exact SeqAt.RcNeAt.str_bool _ t1 q
  case str.int p q =>
    cases (show some false = some b from h)
    cases (show x = _ from hd)
    obtain ⟨t1, rfl⟩ := ru
    cases (show y = _ from he)
    obtain ⟨t2, rfl⟩ := rv
    exact SeqAt.RcNeAt.str_int _ t1 q t2
  case str.str p q =>
    cases (show some (p == q) = some b from h)
    cases (show x = _ from hd)
    obtain ⟨t1, rfl⟩ := ru
    cases (show y = _ from he)
    obtain ⟨t2, rfl⟩ := rv
    rw [← strV_beq]
    exact SeqAt.RcNeAt.str_str _ t1 _ t2
  case str.tup p q =>
    cases (show some false = some b from h)
    cases (show x = _ from hd)
    obtain ⟨t1, rfl⟩ := ru
    obtain ⟨at2, vst2, rfl, ht2, _⟩ := he
    cases rv
    obtain ⟨it2, _, g2, _⟩ := I.tuple ht2.sq
    exact SeqAt.RcNeAt.str_tuple _ t1 g2 hu
  case str.lst p q =>
    cases (show some false = some b from h)
    cases (show x = _ from hd)
    obtain ⟨t1, rfl⟩ := ru
    obtain ⟨at2, vst2, rfl, ht2, _⟩ := he
    cases rv
    obtain ⟨it2, _, g2, _⟩ := I.list (LstAt.sq (K := X.K) ht2)
    exact SeqAt.RcNeAt.str_list _ t1 g2.isList hu
  case tup.non p =>
    cases (show some false = some b from h)
    obtain ⟨at1, vst1, rfl, ht1, _⟩ := hd
    cases ru
    obtain ⟨it1, _, g1, _⟩ := I.tuple ht1.sq
    cases (show y = _ from he); cases rv
    exact SeqAt.RcNeAt.tuple_none g1 hu
  case tup.bl p q =>
    cases (show some false = some b from h)
    obtain ⟨at1, vst1, rfl, ht1, _⟩ := hd
    cases ru
    obtain ⟨it1, _, g1, _⟩ := I.tuple ht1.sq
    cases (show y = _ from he); cases rv
    exact SeqAt.RcNeAt.tuple_bool q g1 hu
  case tup.int p q =>
    cases (show some false = some b from h)
    obtain ⟨at1, vst1, rfl, ht1, _⟩ := hd
    cases ru
    obtain ⟨it1, _, g1, _⟩ := I.tuple ht1.sq
    cases (show y = _ from he)
    obtain ⟨t2, rfl⟩ := rv
    exact SeqAt.RcNeAt.tuple_int q t2 g1 hu
  case tup.str p q =>
    cases (show some false = some b from h)
    obtain ⟨at1, vst1, rfl, ht1, _⟩ := hd
    cases ru
    obtain ⟨it1, _, g1, _⟩ := I.tuple ht1.sq
    cases (show y = _ from he)
    obtain ⟨t2, rfl⟩ := rv
    exact SeqAt.RcNeAt.tuple_str _ t2 g1 hu
  case tup.lst p q =>
    cases (show some false = some b from h)
    obtain ⟨at1, vst1, rfl, ht1, _⟩ := hd
    cases ru
    obtain ⟨it1, _, g1, _⟩ := I.tuple ht1.sq
    obtain ⟨at2, vst2, rfl, ht2, _⟩ := he
    cases rv
    obtain ⟨it2, _, g2, _⟩ := I.list (LstAt.sq (K := X.K) ht2)
    exact SeqAt.RcNeAt.tuple_list g1 g2.isList hu
  case lst.non p =>
    cases (show some false = some b from h)
    obtain ⟨at1, vst1, rfl, ht1, _⟩ := hd
    cases ru
    obtain ⟨it1, _, g1, _⟩ := I.list (LstAt.sq (K := X.K) ht1)
    cases (show y = _ from he); cases rv
    exact SeqAt.RcNeAt.list_none g1.isList hu
  case lst.bl p q =>
    cases (show some false = some b from h)
    obtain ⟨at1, vst1, rfl, ht1, _⟩ := hd
    cases ru
    obtain ⟨it1, _, g1, _⟩ := I.list (LstAt.sq (K := X.K) ht1)
    cases (show y = _ from he); cases rv
    exact SeqAt.RcNeAt.list_bool q g1.isList hu
  case lst.int p q =>
    cases (show some false = some b from h)
    obtain ⟨at1, vst1, rfl, ht1, _⟩ := hd
    cases ru
    obtain ⟨it1, _, g1, _⟩ := I.list (LstAt.sq (K := X.K) ht1)
    cases (show y = _ from he)
    obtain ⟨t2, rfl⟩ := rv
    exact SeqAt.RcNeAt.list_int q t2 g1.isList hu
  case lst.str p q =>
    cases (show some false = some b from h)
    obtain ⟨at1, vst1, rfl, ht1, _⟩ := hd
    cases ru
    obtain ⟨it1, _, g1, _⟩ := I.list (LstAt.sq (K := X.K) ht1)
    cases (show y = _ from he)
    obtain ⟨t2, rfl⟩ := rv
    exact SeqAt.RcNeAt.list_str _ t2 g1.isList hu
  case lst.tup p q =>
    cases (show some false = some b from h)
    obtain ⟨at1, vst1, rfl, ht1, _⟩ := hd
    cases ru
    obtain ⟨it1, _, g1, _⟩ := I.list (LstAt.sq (K := X.K) ht1)
    obtain ⟨at2, vst2, rfl, ht2, _⟩ := he
    cases rv
    obtain ⟨it2, _, g2, _⟩ := I.tuple ht2.sq
    exact SeqAt.RcNeAt.list_tuple g1.isList g2 hu
end
end KL
end
section
set_option Elab.async false
set_option linter.all false
set_option maxRecDepth 100000
set_option maxHeartbeats 2000000
set_option autoImplicit false
/-! KLOp2: the operators' rules. -/
namespace KL
open PySem PySem.Spec PyProof.Rows L2

abbrev HRX (X : Cx) := HR X.prog X.w X.K
/-- what follows with a datum, the state as it may stand -/
def KD (X : Cx) (Z : Addr → Prop) (m : List Addr) (S : Store) (H : Hp) (d : D) (S' : Store) (Q : VK) : Prop :=
  ∀ m' H' v, Ext m S H m' S' H' → HRX X Z m' S' H' → RP X H' (LL Z m' S') m' d v → Q v H'
def RD2 (X : Cx) (Z : Addr → Prop) (f : D → D → Store → Option D) : R2 := fun x y H Q => ∃ m S d e r, HRX X Z m S H ∧ RP X H (LL Z m S) m d x ∧ RP X H (LL Z m S) m e y ∧ f d e S = some r ∧ KD X Z m S H r S Q
def bopOf : BO → Operator
  | .add => .Add | .sub => .Sub | .mul => .Mult | .fdiv => .FloorDiv | .mod => .Mod | .pow => .Pow
def copOf : CO → CmpOp
  | .eq => .Eq | .ne => .NotEq | .lt => .Lt | .le => .LtE | .gt => .Gt | .ge => .GtE | .isin => .In | .notin => .NotIn | .isN => .Is | .notN => .IsNot
theorem strV_len (s : Txt) : (strV s).length = s.length := by simp [strV, Str.length]
theorem strV_app (s t : Txt) : strV s ++ strV t = strV (s ++ t) := by
  show Str.append (strV s) (strV t) = strV (s ++ t)
  simp [strV, Str.append]
theorem lineN_eq : lineN = sizeLine := by rw [sizeLine_eq]; rfl
theorem repL_eq {α : Type} (xs : List α) : ∀ n : Nat, repL xs n = (List.replicate n xs).flatten
  | 0 => rfl
  | n + 1 => by
    show xs ++ repL xs n = _
    rw [repL_eq xs n, List.replicate_succ, List.flatten_cons]
section
variable {X : Cx} {Z : Addr → Prop} {m : List Addr} {S : Store} {H : Hp} {d e : D} {x y : V} {Q : VK}
/-- as it stands -/
theorem KD.here {r : D} (k : KD X Z m S H r S Q) (h : HRX X Z m S H) {v : V} (rv : RP X H (LL Z m S) m r v) : Q v H := k m H v Ext.refl h rv
/-- something new -/
theorem KD.new {r : D} (k : KD X Z m S H r S Q) (h : HRX X Z m S H) {p : Addr} (hp : H p = none) {o : HO} (rv : RP X (upd H p o) (LL Z m S) m r (.ref p)) : Q (.ref p) (upd H p o) := k m _ _ (h.ext hp o) (h.fresh hp o) rv
theorem repL_reps {P : Program} {w : World} {K : PySem.W.Frag} {L : Addr → Prop} {ds : List D} {vs : List V} (h : Reps P w K H L m ds vs) : ∀ n, Reps P w K H L m (repL ds n) (repL vs n)
  | 0 => rfl
  | n + 1 => h.append (repL_reps h n)
/-- a datum that is a list by view: its list -/
theorem lstOf_at (h : HRX X Z m S H) (hd : RP X H (LL Z m S) m d x) {xs : List D} (e : lstOf S d = some xs) : ∃ a vs, x = .ref a ∧ H a = some (.lst vs) ∧ RPs X H (LL Z m S) m xs vs := by
  cases d with
  | lst ys =>
    cases (show some ys = some xs from e)
    obtain ⟨a, vs, e1, h1, h2⟩ := hd
    exact ⟨a, vs, e1, h1.1, h2⟩
  | ref n =>
    obtain ⟨a, e1, h1⟩ := hd
    cases q : S[n]? with
    | none => simp [lstOf, view, q] at e
    | some o =>
      cases o with
      | lst ys =>
        have e2 : ys = xs := by simpa [lstOf, view, q] using e
        subst e2
        obtain ⟨vs, h2, h3⟩ := h.obj n _ a q rfl h1
        exact ⟨a, vs, e1, h2, h3⟩
      | _ => simp [lstOf, view, q] at e
  | _ => simp [lstOf, view] at e
theorem op_repR : OpR X (binaryOp .Mult) (fun x y H Q => ∃ l k xs, x = .ref l ∧ y = .int k ∧ H l = some (.lst xs) ∧ 0 ≤ k ∧ k ≤ 1000 ∧ xs.length * k.toNat ≤ sizeLine ∧ ∀ p, H p = none → Q (.ref p) (upd H p (.lst (repL xs k.toNat)))) := by
  intro pins s σ H x y v u Q I rx ry h
  obtain ⟨l, k, xs, rfl, rfl, hl, h0, h1, hz, q⟩ := h
  exact op_rep pins s σ H _ _ v u Q I rx ry ⟨l, k, xs, rfl, rfl, hl, by omega, by omega, hz, fun p hp => by rw [← repL_eq]; exact q p hp⟩
theorem mul_ok {i j : Int} (h : mulOk i j = true) : IntMulOk i j := by
  unfold mulOk small64 at h
  simp only [Bool.or_eq_true, Bool.and_eq_true, decide_eq_true_eq] at h
  rcases h with (h | h) | h
  · exact CMul.ok (.inl ⟨by omega, by omega⟩)
  · exact CMul.ok (.inr ⟨by omega, by omega⟩)
  · exact CMulW.ok h
theorem op_mulA : OpR X (binaryOp .Mult) (rI (fun i j => mulOk i j = true) fun i j => .int (i * j)) := opI fun _ _ _ _ _ _ _ hc q => mul_int q (mul_ok hc)

theorem binD_add_lst {S : Store} {d e : D} {r : D} (h : binD .add d e S = some r) (h1 : ∀ i j, d = .int i → e = .int j → False) (h2 : ∀ i j, d = .str i → e = .str j → False) (h3 : ∀ i j, d = .tup i → e = .tup j → False) :
    ∃ xs ys, lstOf S d = some xs ∧ lstOf S e = some ys ∧ xs.length + ys.length ≤ lineN ∧ r = .lst (xs ++ ys) := by
  have q : (match lstOf S d, lstOf S e with
      | some xs, some ys => if xs.length + ys.length ≤ lineN then some (D.lst (xs ++ ys)) else none
      | _, _ => none) = some r := by
    revert h h1 h2 h3
    cases d <;> cases e <;> intro h h1 h2 h3 <;> first
      | exact (h1 _ _ rfl rfl).elim
      | exact (h2 _ _ rfl rfl).elim
      | exact (h3 _ _ rfl rfl).elim
      | exact h
  cases q1 : lstOf S d with
  | none => rw [q1] at q; cases q
  | some xs =>
    cases q2 : lstOf S e with
    | none => rw [q1, q2] at q; cases q
    | some ys =>
      rw [q1, q2] at q
      have q : (if xs.length + ys.length ≤ lineN then some (D.lst (xs ++ ys)) else none) = some r := q
      by_cases hl : xs.length + ys.length ≤ lineN
      · rw [if_pos hl] at q
        exact ⟨xs, ys, rfl, rfl, hl, (Option.some.inj q).symm⟩
      · rw [if_neg hl] at q; cases q
theorem op_addD : OpR X (binaryOp .Add) (RD2 X Z (binD .add)) := by
  intro pins s σ H x y v u Q I rx ry h
  obtain ⟨m, S, d, e, r, hr, hd, he, hb, k⟩ := h
  by_cases c1 : (∃ i, d = .int i) ∧ ∃ j, e = .int j
  · obtain ⟨⟨i, rfl⟩, j, rfl⟩ := c1
    cases (show x = _ from hd); cases (show y = _ from he)
    cases (show some (D.int (i + j)) = some r from hb)
    exact op_add pins s σ H _ _ v u Q I rx ry ⟨i, j, rfl, rfl, k.here hr (v := .int (i + j)) rfl⟩
  by_cases c2 : (∃ i, d = .str i) ∧ ∃ j, e = .str j
  · obtain ⟨⟨i, rfl⟩, j, rfl⟩ := c2
    cases (show x = _ from hd); cases (show y = _ from he)
    have hb : (if i.length + j.length ≤ lineN then some (D.str (i ++ j)) else none) = some r := hb
    by_cases hl : i.length + j.length ≤ lineN
    · rw [if_pos hl] at hb
      cases hb
      exact op_add_str pins s σ H _ _ v u Q I rx ry ⟨_, _, rfl, rfl, by rw [strV_len, strV_len, ← lineN_eq]; exact hl, by rw [strV_app]; exact k.here hr rfl⟩
    · rw [if_neg hl] at hb; cases hb
  by_cases c3 : (∃ i, d = .tup i) ∧ ∃ j, e = .tup j
  · obtain ⟨⟨xs, rfl⟩, ys, rfl⟩ := c3
    obtain ⟨a, vs, rfl, h1, h2⟩ := id hd
    obtain ⟨b, us, rfl, h3, h4⟩ := id he
    have hb : (if xs.length + ys.length ≤ lineN then some (D.tup (xs ++ ys)) else none) = some r := hb
    by_cases hl : xs.length + ys.length ≤ lineN
    · rw [if_pos hl] at hb
      cases hb
      have l1 := h2.length
      have l2 := h4.length
      refine op_catA pins s σ H _ _ v u Q I rx ry ⟨a, b, vs, us, rfl, rfl, h1.sq, h3.sq, by rw [← l1, ← l2, ← lineN_eq]; exact hl, fun z => ?_, fun _ z => ?_, fun _ _ p hp => k.new hr hp (hr.tup hp (h2.append h4))⟩
      · have : xs = [] := List.eq_nil_of_length_eq_zero (by rw [l1, z]; rfl)
        subst this
        exact k.here hr he
      · have : ys = [] := List.eq_nil_of_length_eq_zero (by rw [l2, z]; rfl)
        subst this
        rw [List.append_nil] at k
        exact k.here hr hd
    · rw [if_neg hl] at hb; cases hb
  · obtain ⟨xs, ys, e1, e2, hl, rfl⟩ := binD_add_lst hb (fun i j a b => c1 ⟨⟨i, a⟩, j, b⟩) (fun i j a b => c2 ⟨⟨i, a⟩, j, b⟩) (fun i j a b => c3 ⟨⟨i, a⟩, j, b⟩)
    obtain ⟨a, vs, rfl, h1, h2⟩ := lstOf_at hr hd e1
    obtain ⟨b, us, rfl, h3, h4⟩ := lstOf_at hr he e2
    exact op_cat pins s σ H _ _ v u Q I rx ry ⟨a, b, vs, us, rfl, rfl, h1, h3, by rw [← h2.length, ← h4.length, ← lineN_eq]; exact hl, fun p hp => k.new hr hp (hr.lst hp (h2.append h4))⟩
theorem some_if {α : Type} {c : Bool} {a r : α} (h : (if c = true then some a else none) = some r) : c = true ∧ a = r := by
  cases c with
  | true => exact ⟨rfl, Option.some.inj h⟩
  | false => cases h
theorem op_binD (op : BO) : OpR X (binaryOp (bopOf op)) (RD2 X Z (binD op)) := by
  cases op with
  | add => exact op_addD
  | sub =>
    intro pins s σ H x y v u Q I rx ry h
    obtain ⟨m, S, d, e, r, hr, hd, he, hb, k⟩ := h
    cases d <;> cases e <;> first | (cases (show none = some r from hb); done) | skip
    rename_i i j
    cases (show x = _ from hd); cases (show y = _ from he)
    cases (show some (D.int (i - j)) = some r from hb)
    exact op_sub pins s σ H _ _ v u Q I rx ry ⟨i, j, rfl, rfl, k.here hr (v := .int (i - j)) rfl⟩
  | mul =>
    intro pins s σ H x y v u Q I rx ry h
    obtain ⟨m, S, d, e, r, hr, hd, he, hb, k⟩ := h
    cases d <;> cases e <;> first | (cases (show none = some r from hb); done) | skip
    case int.int i j =>
      cases (show x = _ from hd); cases (show y = _ from he)
      obtain ⟨c, rfl⟩ := some_if (show (if mulOk i j = true then some (D.int (i * j)) else none) = some r from hb)
      exact op_mulA pins s σ H _ _ v u Q I rx ry ⟨i, j, rfl, rfl, c, k.here hr (v := .int (i * j)) rfl⟩
    case lst.int xs j =>
      obtain ⟨a, vs, rfl, h1, h2⟩ := id hd
      cases (show y = _ from he)
      obtain ⟨c, rfl⟩ := some_if (show (if (decide (0 ≤ j) && decide (j ≤ 1000) && decide (xs.length * j.toNat ≤ lineN)) = true then some (D.lst (repL xs j.toNat)) else none) = some r from hb)
      simp only [Bool.and_eq_true, decide_eq_true_eq] at c
      exact op_repR pins s σ H _ _ v u Q I rx ry ⟨a, j, vs, rfl, rfl, h1.1, c.1.1, c.1.2, by rw [← h2.length, ← lineN_eq]; exact c.2, fun p hp => k.new hr hp (hr.lst hp (repL_reps h2 _))⟩
    case tup.int xs j =>
      obtain ⟨a, vs, rfl, h1, h2⟩ := id hd
      cases (show y = _ from he)
      obtain ⟨c, rfl⟩ := some_if (show (if (decide (2 ≤ j) && decide (j ≤ 1000) && decide (xs.length ≤ 1000) && !xs.isEmpty) = true then some (D.tup (repL xs j.toNat)) else none) = some r from hb)
      simp only [Bool.and_eq_true, decide_eq_true_eq] at c
      exact op_repT pins s σ H _ _ v u Q I rx ry ⟨a, j, vs, rfl, rfl, h1.sq, (by
        rintro rfl
        have l := h2.length
        have : xs = [] := List.eq_nil_of_length_eq_zero l
        subst this
        exact absurd c.2 (by decide)), c.1.1.1, c.1.1.2, by rw [← h2.length]; exact c.1.2, fun p hp => by rw [← repL_eq]; exact k.new hr hp (hr.tup hp (repL_reps h2 _))⟩
  | fdiv =>
    intro pins s σ H x y v u Q I rx ry h
    obtain ⟨m, S, d, e, r, hr, hd, he, hb, k⟩ := h
    cases d <;> cases e <;> first | (cases (show none = some r from hb); done) | skip
    rename_i i j
    cases (show x = _ from hd); cases (show y = _ from he)
    obtain ⟨c, rfl⟩ := some_if (show (if divOk j = true then some (D.int (i / j)) else none) = some r from hb)
    unfold divOk at c
    simp only [Bool.and_eq_true, decide_eq_true_eq] at c
    exact op_fdivW pins s σ H _ _ v u Q I rx ry ⟨i, j, rfl, rfl, c, k.here hr (v := .int (i / j)) rfl⟩
  | mod =>
    intro pins s σ H x y v u Q I rx ry h
    obtain ⟨m, S, d, e, r, hr, hd, he, hb, k⟩ := h
    cases d <;> cases e <;> first | (cases (show none = some r from hb); done) | skip
    rename_i i j
    cases (show x = _ from hd); cases (show y = _ from he)
    obtain ⟨c, rfl⟩ := some_if (show (if decide (0 < j) = true then some (D.int (i % j)) else none) = some r from hb)
    exact op_mod pins s σ H _ _ v u Q I rx ry ⟨i, j, rfl, rfl, of_decide_eq_true c, k.here hr (v := .int (i % j)) rfl⟩
  | pow =>
    intro pins s σ H x y v u Q I rx ry h
    obtain ⟨m, S, d, e, r, hr, hd, he, hb, k⟩ := h
    cases d <;> cases e <;> first | (cases (show none = some r from hb); done) | skip
    rename_i i j
    cases (show x = _ from hd); cases (show y = _ from he)
    obtain ⟨c, rfl⟩ := some_if (show (if (decide (0 ≤ j) && decide (j ≤ 1000000) && decide (i.natAbs < 18446744073709551616)) = true then some (D.int (i ^ j.toNat)) else none) = some r from hb)
    simp only [Bool.and_eq_true, decide_eq_true_eq] at c
    exact op_pow pins s σ H _ _ v u Q I rx ry ⟨i, j, rfl, rfl, ⟨c.1.1, c.1.2, c.2⟩, k.here hr (v := .int (i ^ j.toNat)) rfl⟩
end
end KL
end
section
set_option Elab.async false
set_option linter.all false
set_option maxRecDepth 100000
set_option maxHeartbeats 2000000
set_option autoImplicit false
/-! KLCmp: comparisons, in, truth. -/
namespace KL
open PySem PySem.Spec PyProof.Rows L2

section
variable {X : Cx} {pins : List (Addr × Obj)} {σ : L2.St} {H : Hp} {s : Shared} {L : Addr → Prop} {m : List Addr}
/-! ### two data at one place compare alike -/
theorem eqLs_cong {f : D → D → Option Bool} (g : D → V → Prop) (hf : ∀ d d' e v b b', g d v → g d' v → f d e = some b → f d' e = some b' → b = b') : ∀ {xs ys es : List D} {vs : List V} {b b' : Bool}, Paired g xs vs → Paired g ys vs → eqLs f xs es = some b → eqLs f ys es = some b' → b = b'
  | [], [], es, _, b, b', _, _, h, h' => Option.some.inj (h.symm.trans h')
  | [], _ :: _, _, _, _, _, h1, h2, _, _ => by cases h1; cases h2
  | _ :: _, [], _, _, _, _, h1, h2, _, _ => by cases h2; cases h1
  | x :: xs, y :: ys, [], _, b, b', .cons h1 t1, .cons h2 t2, h, h' => by
    cases (show some false = some b from h); cases (show some false = some b' from h'); rfl
  | x :: xs, y :: ys, e :: es, _, b, b', .cons h1 t1, .cons h2 t2, h, h' => by
    unfold eqLs at h h'
    cases q1 : f x e with
    | none => rw [q1] at h; cases h
    | some c =>
      cases q2 : eqLs f xs es with
      | none => rw [q1, q2] at h; cases h
      | some d =>
        cases q3 : f y e with
        | none => rw [q3] at h'; cases h'
        | some c' =>
          cases q4 : eqLs f ys es with
          | none => rw [q3, q4] at h'; cases h'
          | some d' =>
            rw [q1, q2] at h
            rw [q3, q4] at h'
            have hb : (c && d) = b := Option.some.inj h
            have hb' : (c' && d') = b' := Option.some.inj h'
            rw [← hb, ← hb', hf _ _ _ _ _ _ h1 h2 q1 q3, eqLs_cong g hf t1 t2 q2 q4]
/-- which kind stands at a place -/
inductive Kd | non | bl (b : Bool) | int (i : Int) | str (s : Txt) | tup | lst | odd
def kdOf : D → Kd
  | .non => .non | .bl b => .bl b | .int i => .int i | .str s => .str s | .tup _ => .tup | .lst _ => .lst | _ => .odd
theorem kd_same (I : Inv X pins σ H s) {d d' : D} {v : V} (h : RP X H L m d v) (h' : RP X H L m d' v) (o : kdOf d ≠ .odd) (o' : kdOf d' ≠ .odd) : kdOf d = kdOf d' := by
  have ref_no : ∀ {d : D}, kdOf d = .tup ∨ kdOf d = .lst → RP X H L m d v → ∃ a, v = .ref a := by
    intro d hk hd
    cases d <;> simp [kdOf] at hk
    · obtain ⟨a, _, e, _⟩ := hd; exact ⟨a, e⟩
    · obtain ⟨a, _, e, _⟩ := hd; exact ⟨a, e⟩
  have apart : ∀ {xs ys : List D}, RP X H L m (.tup xs) v → RP X H L m (.lst ys) v → False := by
    rintro xs ys ⟨a, vs, e1, h1, _⟩ ⟨b, us, e2, h2, _⟩
    rw [e1] at e2; injection e2 with e2; subst e2
    obtain ⟨its, _, t1, _⟩ := I.tuple h1.sq
    obtain ⟨its', _, t2, _⟩ := I.list (LstAt.sq (K := X.K) h2)
    exact SeqAt.ne_of_list_tuple (l := a) (b := a) t2.isList t1 rfl
  cases d <;> cases d' <;> first
    | rfl
    | exact absurd rfl o
    | exact absurd rfl o'
    | exact (apart h h').elim
    | exact (apart h' h).elim
    | (have z := (show v = _ from h).symm.trans (show v = _ from h'); cases z <;> rfl)
    | (obtain ⟨a, e⟩ := ref_no (.inl rfl) h; cases (show v = _ from h').symm.trans e)
    | (obtain ⟨a, e⟩ := ref_no (.inr rfl) h; cases (show v = _ from h').symm.trans e)
    | (obtain ⟨a, e⟩ := ref_no (.inl rfl) h'; cases (show v = _ from h).symm.trans e)
    | (obtain ⟨a, e⟩ := ref_no (.inr rfl) h'; cases (show v = _ from h).symm.trans e)
theorem eqN_kd : ∀ {n : Nat} {d e : D} {b : Bool}, eqN n d e = some b → kdOf d ≠ .odd
  | 0, _, _, _, h => by cases h
  | n + 1, d, e, b, h => by
    cases d <;> first
      | (intro z; cases z; done)
      | (cases e <;> cases (show none = some b from h))
theorem eqN_cong (I : Inv X pins σ H s) : ∀ (n : Nat) {d d' e : D} {v : V} {b b' : Bool}, RP X H L m d v → RP X H L m d' v → eqN n d e = some b → eqN n d' e = some b' → b = b'
  | 0, _, _, _, _, _, _, _, _, h, _ => by cases h
  | n + 1, d, d', e, v, b, b', hd, hd', h, h' => by
    have k := kd_same I hd hd' (eqN_kd h) (eqN_kd h')
    have o := eqN_kd h
    have o' := eqN_kd h'
    cases d <;> cases d' <;> first
      | (cases k; done)
      | exact absurd rfl o
      | (have : _ = _ := k
         cases k
         exact Option.some.inj (h.symm.trans h'))
      | skip
    case tup.tup xs ys =>
      cases e <;> first
        | (cases (show some false = some b from h); cases (show some false = some b' from h'); rfl)
        | (cases (show none = some b from h); done)
        | skip
      case tup es =>
        obtain ⟨a, vs, rfl, h1, h2⟩ := hd
        obtain ⟨a', us, e1, h3, h4⟩ := hd'
        injection e1 with e1; subst e1
        rw [TupAt.inj I h3 h1] at h4
        exact eqLs_cong (f := eqN n) (RP X H L m) (fun d d' e v b b' g1 g2 g3 g4 => eqN_cong I n g1 g2 g3 g4) h2.paired h4.paired h h'
    case lst.lst xs ys =>
      cases e <;> first
        | (cases (show some false = some b from h); cases (show some false = some b' from h'); rfl)
        | (cases (show none = some b from h); done)
        | skip
      case lst es =>
        obtain ⟨a, vs, rfl, h1, h2⟩ := hd
        obtain ⟨a', us, e1, h3, h4⟩ := hd'
        injection e1 with e1; subst e1
        rw [LstAt.inj I h3 h1] at h4
        exact eqLs_cong (f := eqN n) (RP X H L m) (fun d d' e v b b' g1 g2 g3 g4 => eqN_cong I n g1 g2 g3 g4) h2.paired h4.paired h h'
end

/-! ### in -/
section
variable {X : Cx} {pins : List (Addr × Obj)} {σ : L2.St} {H : Hp} {s : Shared} {L : Addr → Prop} {m : List Addr}
/-- whether a value is equal to a datum, by a datum that it stands for -/
noncomputable def eqVal (X : Cx) (H : Hp) (L : Addr → Prop) (m : List Addr) (x : D) (u : Value) : Bool := @decide (∃ d v, RelV v u ∧ RP X H L m d v ∧ eqD d x = some true) (_root_.Classical.propDecidable _)
theorem eqVal_of (I : Inv X pins σ H s) {x d : D} {v : V} {u : Value} {b : Bool} (r : RelV v u) (hd : RP X H L m d v) (h : eqD d x = some b) : eqVal X H L m x u = b := by
  unfold eqVal
  cases b with
  | true => exact @decide_eq_true _ (_root_.Classical.propDecidable _) ⟨d, v, r, hd, h⟩
  | false =>
    refine @decide_eq_false _ (_root_.Classical.propDecidable _) ?_
    rintro ⟨d', v', r', hd', h'⟩
    have e := r.inj r'
    subst e
    have := eqN_cong I 40 hd hd' h h'
    cases this
theorem memL_run (I : Inv X pins σ H s) {A : Around} (hA : A.units + 41 < cLine) {x : D} {xv : V} {xu : Value} (rx : RelV xv xu) (hx : RP X H L m x xv) : ∀ {ys : List D} {vs : List V} {us : List Value} {b : Bool}, memL x ys = some b → RPs X H L m ys vs → Vals vs us →
    (∀ u ∈ us, SeqAt.EqAt A s u xu (eqVal X H L m x u)) ∧ us.any (eqVal X H L m x) = b
  | [], vs, us, b, h, hv, hr => by
    rw [show vs = [] from hv] at hr
    cases hr
    exact ⟨fun _ z => (List.not_mem_nil z).elim, Option.some.inj (show some false = some b from h)⟩
  | y :: ys, vs, us, b, h, hv, hr => by
    obtain ⟨v, vs', rfl, h1, h2⟩ := hv
    cases hr with
    | cons r1 r2 =>
      unfold memL at h
      cases e1 : eqD y x with
      | none => rw [e1] at h; cases h
      | some c =>
        cases e2 : memL x ys with
        | none => rw [e1, e2] at h; cases h
        | some d =>
          rw [e1, e2] at h
          have hb : (c || d) = b := Option.some.inj h
          obtain ⟨i1, i2⟩ := memL_run I hA rx hx e2 h2 r2
          have q := eqVal_of I r1 h1 e1
          refine ⟨fun u hu => ?_, ?_⟩
          · rcases List.mem_cons.mp hu with rfl | hu
            · rw [q]
              exact eqN_run I 40 e1 h1 hx r1 rx (by omega)
            · exact i1 u hu
          · rw [List.any_cons, q, i2, hb]
end
theorem eqLs_keys {f : D → D → Option Bool} (hf : ∀ d e a b r, nk d = some a → nk e = some b → f d e = some r → r = decide (a = b)) : ∀ {xs ys : List D} {ks js : List KK} {r : Bool}, nks xs = some ks → nks ys = some js → eqLs f xs ys = some r → r = decide (ks = js)
  | [], [], ks, js, r, h1, h2, h => by
    cases (show some [] = some ks from h1); cases (show some [] = some js from h2); cases (show some true = some r from h); simp
  | [], y :: ys, ks, js, r, h1, h2, h => by
    cases (show some [] = some ks from h1)
    cases (show some false = some r from h)
    unfold nks at h2
    cases e : nk y with
    | none => rw [e] at h2; cases h2
    | some a => cases e2 : nks ys with
      | none => rw [e, e2] at h2; cases h2
      | some b => rw [e, e2] at h2; cases h2; simp
  | x :: xs, [], ks, js, r, h1, h2, h => by
    cases (show some [] = some js from h2)
    cases (show some false = some r from h)
    unfold nks at h1
    cases e : nk x with
    | none => rw [e] at h1; cases h1
    | some a => cases e2 : nks xs with
      | none => rw [e, e2] at h1; cases h1
      | some b => rw [e, e2] at h1; cases h1; simp
  | x :: xs, y :: ys, ks, js, r, h1, h2, h => by
    unfold nks at h1 h2
    cases e1 : nk x with
    | none => rw [e1] at h1; cases h1
    | some a => cases e2 : nks xs with
      | none => rw [e1, e2] at h1; cases h1
      | some as =>
        cases e3 : nk y with
        | none => rw [e3] at h2; cases h2
        | some b => cases e4 : nks ys with
          | none => rw [e3, e4] at h2; cases h2
          | some bs =>
            rw [e1, e2] at h1; cases h1
            rw [e3, e4] at h2; cases h2
            unfold eqLs at h
            cases q1 : f x y with
            | none => rw [q1] at h; cases h
            | some c => cases q2 : eqLs f xs ys with
              | none => rw [q1, q2] at h; cases h
              | some d =>
                rw [q1, q2] at h
                have hb : (c && d) = r := Option.some.inj h
                rw [← hb, hf _ _ _ _ _ e1 e3 q1, eqLs_keys hf e2 e4 q2, Bool.eq_iff_iff]
                simp
theorem eqN_nk : ∀ (n : Nat) {d e : D} {a b : KK} {r : Bool}, nk d = some a → nk e = some b → eqN n d e = some r → r = decide (a = b)
  | 0, _, _, _, _, _, _, _, h => by cases h
  | n + 1, d, e, a, b, r, h1, h2, h => by
    cases d <;> first | (cases (show none = some a from h1); done) | skip
    all_goals (cases e <;> first | (cases (show none = some b from h2); done) | skip)
    case bl.bl p q =>
      cases (show some (KK.int (PpSet.b2 p)) = some a from h1); cases (show some (KK.int (PpSet.b2 q)) = some b from h2); cases (show some (p == q) = some r from h)
      cases p <;> cases q <;> simp [PpSet.b2]
    case bl.int p q =>
      cases (show some (KK.int (PpSet.b2 p)) = some a from h1); cases (show some (KK.int q) = some b from h2); cases (show some ((if p then 1 else 0) == q) = some r from h)
      rw [Bool.eq_iff_iff]; simp [PpSet.b2]
    case int.bl p q =>
      cases (show some (KK.int p) = some a from h1); cases (show some (KK.int (PpSet.b2 q)) = some b from h2); cases (show some (p == (if q then 1 else 0)) = some r from h)
      rw [Bool.eq_iff_iff]; simp [PpSet.b2]
    case int.int p q =>
      cases (show some (KK.int p) = some a from h1); cases (show some (KK.int q) = some b from h2); cases (show some (p == q) = some r from h)
      rw [Bool.eq_iff_iff]; simp
    case str.str p q =>
      cases (show some (KK.str (strV p)) = some a from h1); cases (show some (KK.str (strV q)) = some b from h2); cases (show some (p == q) = some r from h)
      rw [Bool.eq_iff_iff]; simp
      exact ⟨fun e => by rw [e], strV_inj⟩
    case tup.tup p q =>
      have h1 : (nks p).map KK.tup = some a := h1
      have h2 : (nks q).map KK.tup = some b := h2
      obtain ⟨ks, e1, rfl⟩ := Option.map_eq_some_iff.mp h1
      obtain ⟨js, e2, rfl⟩ := Option.map_eq_some_iff.mp h2
      rw [eqLs_keys (fun d e a b r g1 g2 g3 => eqN_nk n g1 g2 g3) e1 e2 (show eqLs (eqN n) p q = some r from h), Bool.eq_iff_iff]
      simp
    case tup.bl p q =>
      obtain ⟨ks, _, rfl⟩ := Option.map_eq_some_iff.mp (show (nks p).map KK.tup = some a from h1)
      cases (show some (KK.int (PpSet.b2 q)) = some b from h2); cases (show some false = some r from h); simp
    case tup.int p q =>
      obtain ⟨ks, _, rfl⟩ := Option.map_eq_some_iff.mp (show (nks p).map KK.tup = some a from h1)
      cases (show some (KK.int q) = some b from h2); cases (show some false = some r from h); simp
    case tup.str p q =>
      obtain ⟨ks, _, rfl⟩ := Option.map_eq_some_iff.mp (show (nks p).map KK.tup = some a from h1)
      cases (show some (KK.str _) = some b from h2); cases (show some false = some r from h); simp
    case bl.tup p q =>
      obtain ⟨ks, _, rfl⟩ := Option.map_eq_some_iff.mp (show (nks q).map KK.tup = some b from h2)
      cases (show some (KK.int _) = some a from h1); cases (show some false = some r from h); simp
    case int.tup p q =>
      obtain ⟨ks, _, rfl⟩ := Option.map_eq_some_iff.mp (show (nks q).map KK.tup = some b from h2)
      cases (show some (KK.int _) = some a from h1); cases (show some false = some r from h); simp
    case str.tup p q =>
      obtain ⟨ks, _, rfl⟩ := Option.map_eq_some_iff.mp (show (nks q).map KK.tup = some b from h2)
      cases (show some (KK.str _) = some a from h1); cases (show some false = some r from h); simp
    case bl.str p q => cases (show some (KK.int _) = some a from h1); cases (show some (KK.str _) = some b from h2); cases (show some false = some r from h); simp
    case int.str p q => cases (show some (KK.int _) = some a from h1); cases (show some (KK.str _) = some b from h2); cases (show some false = some r from h); simp
    case str.bl p q => cases (show some (KK.str _) = some a from h1); cases (show some (KK.int _) = some b from h2); cases (show some false = some r from h); simp
    case str.int p q => cases (show some (KK.str _) = some a from h1); cases (show some (KK.int _) = some b from h2); cases (show some false = some r from h); simp
section
variable {P : Program} {w : World} {K : PySem.W.Frag} {H : Hp} {L : Addr → Prop} {m : List Addr}
/-- the place of a key: where it stands among the entries -/
theorem keyIx_at {k : D} {kk : KK} (hk : nk k = some kk) : ∀ {ks : List D} {xs : List (KK × Addr × Value)} {o : Option Nat}, KReps P w K H L m ks xs → keyIx k ks = some o →
    match o with
    | none => atKey xs kk = none ∧ kk ∉ xs.map (·.1)
    | some j => ∃ b u, xs[j]? = some (kk, b, u) ∧ atKey xs kk = some (b, u)
  | [], xs, o, hr, h => by
    rw [show xs = [] from hr]
    cases (show some none = some o from h)
    exact ⟨rfl, by simp⟩
  | d :: ds, xs, o, hr, h => by
    obtain ⟨k', b, u, ys, rfl, h1, h2, h3, h4⟩ := hr
    unfold keyIx at h
    cases e : eqN 20 d k with
    | none => rw [e] at h; cases h
    | some c =>
      rw [e] at h
      have q := eqN_nk 20 h1 hk e
      cases c with
      | true =>
        cases (show some (some 0) = some o from h)
        have e2 : k' = kk := by simpa using q.symm
        subst e2
        exact ⟨b, u, rfl, by simp [atKey]⟩
      | false =>
        have e2 : ¬ k' = kk := by simpa using q.symm
        have at_ : atKey ((k', b, u) :: ys) kk = atKey ys kk := by simp [atKey, List.find?_cons, e2]
        cases e3 : keyIx k ds with
        | none => rw [e3] at h; cases h
        | some o' =>
          rw [e3] at h
          have ih := keyIx_at hk h4 e3
          cases o' with
          | none =>
            cases (show some none = some o from h)
            exact ⟨at_.trans ih.1, by
              rw [List.map_cons, List.mem_cons, not_or]
              exact ⟨fun z => e2 z.symm, ih.2⟩⟩
          | some j =>
            cases (show some (some (j + 1)) = some o from h)
            obtain ⟨b', u', i1, i2⟩ := ih
            exact ⟨b', u', by simpa using i1, at_.trans i2⟩
end

section
variable {X : Cx} {pins : List (Addr × Obj)} {σ : L2.St} {H : Hp} {s : Shared} {L : Addr → Prop} {m : List Addr} {Z : Addr → Prop} {S : Store}
mutual
theorem rep_isK (I : Inv X pins σ H s) : ∀ {d : D} {k : KK} {v : V} {u : Value}, RP X H L m d v → RelV v u → nk d = some k → IsK s.heap k u
  | .bl b, k, v, u, h, r, e => by
    cases (show some (KK.int (PpSet.b2 b)) = some k from e); cases (show v = _ from h); cases r
    exact .inr ⟨b, rfl, rfl⟩
  | .int i, k, v, u, h, r, e => by
    cases (show some (KK.int i) = some k from e); cases (show v = _ from h)
    exact .inl r
  | .str x, k, v, u, h, r, e => by
    cases (show some (KK.str (strV x)) = some k from e); cases (show v = _ from h)
    exact r
  | .tup xs, k, v, u, h, r, e => by
    obtain ⟨ks, e1, rfl⟩ := Option.map_eq_some_iff.mp (show (nks xs).map KK.tup = some k from e)
    obtain ⟨a, vs, rfl, h1, h2⟩ := h
    cases r
    obtain ⟨its, r1, ⟨o, t1, t2, n, t3⟩, _⟩ := I.tuple h1.sq
    exact ⟨a, o, _, n, rfl, t1, t2, t3, by simpa using reps_isK I h2 r1 e1⟩
  | .non, k, v, u, h, r, e => by cases e
  | .lst _, k, v, u, h, r, e => by cases e
  | .dS _ _, k, v, u, h, r, e => by cases e
  | .dT _ _, k, v, u, h, r, e => by cases e
  | .ref _, k, v, u, h, r, e => by cases e
  | .scr _, k, v, u, h, r, e => by cases e
theorem reps_isK (I : Inv X pins σ H s) : ∀ {ds : List D} {ks : List KK} {vs : List V} {us : List Value}, RPs X H L m ds vs → Vals vs us → nks ds = some ks → IsKs s.heap ks us
  | [], ks, vs, us, h, r, e => by
    cases (show some [] = some ks from e)
    rw [show vs = [] from h] at r
    cases r
    rfl
  | d :: ds, ks, vs, us, h, r, e => by
    obtain ⟨v, vs', rfl, h1, h2⟩ := h
    cases r with
    | cons r1 r2 =>
      unfold nks at e
      cases e1 : nk d with
      | none => rw [e1] at e; cases e
      | some a => cases e2 : nks ds with
        | none => rw [e1, e2] at e; cases e
        | some as =>
          rw [e1, e2] at e; cases e
          exact ⟨_, _, rfl, rep_isK I h1 r1 e1, reps_isK I h2 r2 e2⟩
end
theorem kreps_is (I : Inv X pins σ H s) : ∀ {ks : List D} {xs : List (KK × Addr × Value)}, KReps X.prog X.w X.K H L m ks xs → ∀ x ∈ xs, (deepKind X.prog X.w).is s.heap x.1 x.2.1
  | [], xs, h, x, hx => by
    rw [show xs = [] from h] at hx
    exact (List.not_mem_nil hx).elim
  | k :: ks, xs, h, x, hx => by
    obtain ⟨kk, b, u, ys, rfl, h1, h2, h3, h4⟩ := h
    rcases List.mem_cons.mp hx with rfl | hx
    · exact ⟨rep_isK I h3 rfl h1, h2⟩
    · exact kreps_is I h4 x hx
theorem raw_dict (I : Inv X pins σ H s) {a : Addr} {ks : List D} {xs : List (KK × Addr × Value)} (h : RawD X.prog X.w H a xs) (hk : KReps X.prog X.w X.K H L m ks xs) : s.heap.DictOfH (deepKind X.prog X.w) a xs := by
  obtain ⟨⟨o, es, ep, h1, h2, h3, h4, h5⟩, _, _⟩ := h
  obtain ⟨q, _, _⟩ := I.hok a _ h1
  exact ⟨o, es, ep, q, h2, h3, h4, kreps_is I hk, h5⟩
/-- a datum by its view -/
theorem view_rep (h : HRX X Z m S H) {d : D} {x : V} (hd : RP X H (LL Z m S) m d x) : RP X H (fun _ => False) m (view S d) x := by
  have less : Mono H (LL Z m S) m H (fun _ => False) m := Mono.less fun _ z => z.elim
  cases d with
  | ref n =>
    obtain ⟨a, rfl, h1⟩ := id hd
    cases q : S[n]? with
    | none => rw [show view S (.ref n) = .ref n by simp [view, q]]; exact ⟨a, rfl, h1⟩
    | some o =>
      cases o with
      | lst xs =>
        obtain ⟨vs, h2, h3⟩ := h.obj n _ a q rfl h1
        rw [show view S (.ref n) = .lst xs by simp [view, q]]
        exact ⟨a, vs, rfl, ⟨h2, fun z => z⟩, h3.mono less⟩
      | dS ks ds =>
        obtain ⟨vs, h2, h3, _, h4⟩ := h.obj n _ a q rfl h1
        rw [show view S (.ref n) = .dS ks ds by simp [view, q]]
        exact ⟨a, vs, rfl, h2, fun z => z, h3, h4.mono less⟩
      | dT ks ds =>
        obtain ⟨xs, vs, h2, h3, h4, h5⟩ := h.obj n _ a q rfl h1
        rw [show view S (.ref n) = .dT ks ds by simp [view, q]]
        exact ⟨a, xs, vs, rfl, h2, fun z => z, h3.mono less, h4.mono less, h5⟩
      | ins c fs => rw [show view S (.ref n) = .ref n by simp [view, q]]; exact ⟨a, rfl, h1⟩
      | dead => rw [show view S (.ref n) = .ref n by simp [view, q]]; exact ⟨a, rfl, h1⟩
  | _ => exact hd.mono less
def RB2 (X : Cx) (Z : Addr → Prop) (f : D → D → Store → Option Bool) : R2 := fun x y H Q => ∃ m S d e b, HRX X Z m S H ∧ RP X H (LL Z m S) m d x ∧ RP X H (LL Z m S) m e y ∧ f d e S = some b ∧ Q (.bl b) H
theorem kv_val {ks : List Txt} {vs : List V} (hl : ks.length = vs.length) (k : Txt) : match keyIxS k ks with
    | none => valV (kvZip ks vs) (Sum.inr (strV k)) = none
    | some j => ∃ v, vs[j]? = some v ∧ valV (kvZip ks vs) (Sum.inr (strV k)) = some v := by
  induction ks generalizing vs with
  | nil => rfl
  | cons c cs ih =>
    cases vs with
    | nil => simp at hl
    | cons v vs =>
      have e : kvZip (c :: cs) (v :: vs) = (Sum.inr (strV c), v) :: kvZip cs vs := rfl
      rw [e]
      unfold keyIxS
      by_cases hc : c = k
      · subst hc
        rw [if_pos rfl]
        exact ⟨v, rfl, valV_pos rfl⟩
      · rw [if_neg hc]
        have hne : ¬ ((Sum.inr (strV c) : Key) = Sum.inr (strV k)) := fun z => hc (strV_inj (Sum.inr.inj z))
        rw [valV_neg (p := ((Sum.inr (strV c) : Key), v)) hne]
        have := ih (vs := vs) (by simpa using hl)
        cases q : keyIxS k cs with
        | none => rw [q] at this; exact this
        | some j =>
          rw [q] at this
          obtain ⟨u, h1, h2⟩ := this
          exact ⟨u, by simpa using h1, h2⟩
theorem kv_isSome {ks : List Txt} {vs : List V} (hl : ks.length = vs.length) (k : Txt) : (valV (kvZip ks vs) (Sum.inr (strV k))).isSome = (keyIxS k ks).isSome := by
  have := kv_val hl k
  cases q : keyIxS k ks with
  | none => rw [q] at this; rw [this]; rfl
  | some j =>
    rw [q] at this
    obtain ⟨u, _, h2⟩ := this
    rw [h2]; rfl
theorem in_run {neg : Bool} (hu : X.A.units + 64 < cLine) : OpR X (compareOp (if neg then .NotIn else .In)) (fun x y H Q => ∃ m S d e b, HRX X Z m S H ∧ RP X H (LL Z m S) m d x ∧ RP X H (LL Z m S) m e y ∧ inD d e S = some b ∧ Q (.bl (if neg then !b else b)) H) := by
  intro pins s σ H x y v u Q I rx ry h
  obtain ⟨m, S, d, e, b, hr, hd, he, hb, q⟩ := h
  have he' := view_rep hr he
  have hd' : RP X H (fun _ => False) m d x := hd.mono (Mono.less fun _ z => z.elim)
  unfold inD at hb
  generalize view S e = f at hb he'
  cases f with
  | tup ys =>
    obtain ⟨a, vs, rfl, h1, h2⟩ := he'
    cases ry
    obtain ⟨its, r, t, _⟩ := I.tuple h1.sq
    obtain ⟨g1, g2⟩ := memL_run I (A := X.A.in1) (by rw [in1_units]; omega) rx hd' (show memL d ys = some b from hb) h2 r
    cases neg with
    | false => exact SeqAt.in_tupleAt (eqVal X H (fun _ => False) m d) t (fun w hw => g1 w (by simpa using hw)) ⟨.bl _, H, I, rfl, by rw [List.any_toArray, g2]; exact q⟩
    | true => exact SeqAt.notIn_tupleAt (eqVal X H (fun _ => False) m d) t (fun w hw => g1 w (by simpa using hw)) ⟨.bl _, H, I, rfl, by rw [List.any_toArray, g2]; exact q⟩
  | lst ys =>
    obtain ⟨a, vs, rfl, h1, h2⟩ := he'
    cases ry
    obtain ⟨its, r, t, _⟩ := I.list (LstAt.sq (K := X.K) h1)
    obtain ⟨g1, g2⟩ := memL_run I (A := X.A.in1) (by rw [in1_units]; omega) rx hd' (show memL d ys = some b from hb) h2 r
    cases neg with
    | false => exact SeqAt.in_listAt (eqVal X H (fun _ => False) m d) t.isList (fun w hw => g1 w (by simpa using hw)) ⟨.bl _, H, I, rfl, by rw [List.any_toArray, g2]; exact q⟩
    | true => exact SeqAt.notIn_listAt (eqVal X H (fun _ => False) m d) t.isList (fun w hw => g1 w (by simpa using hw)) ⟨.bl _, H, I, rfl, by rw [List.any_toArray, g2]; exact q⟩
  | dS ks ds =>
    cases d <;> first | (cases (show none = some b from hb); done) | skip
    rename_i k
    cases (show some (keyIxS k ks).isSome = some b from hb)
    cases (show x = _ from hd)
    obtain ⟨a, vs, rfl, h1, _, h3, _⟩ := he'
    cases ry
    have g : DGet H a (kV (Sum.inr (strV k))) (valV (kvZip ks vs) (Sum.inr (strV k))) := DGet.k h1
    have e := kv_isSome h3 k
    cases neg with
    | false => exact d_in (by omega) I g rx fun s' I' => ⟨.bl _, H, I', rfl, by rw [e]; exact q⟩
    | true => exact d_notIn (by omega) I g rx fun s' I' => ⟨.bl _, H, I', rfl, by rw [e]; exact q⟩
  | dT ks ds =>
    have hb : (if isKey d = true then (match keyIx d ks with | some o => some o.isSome | none => none) else none) = some b := hb
    by_cases hk : isKey d = true
    · rw [if_pos hk] at hb
      obtain ⟨kk, k1, k2⟩ := isKey_nk hk
      obtain ⟨a, xs, vs, rfl, h1, _, h3, h4, h5⟩ := he'
      cases ry
      obtain ⟨c, rfl⟩ : ∃ c, x = .ref c := by
        cases d <;> first | (cases hk; done) | skip
        obtain ⟨c, _, e, _⟩ := hd
        exact ⟨c, e⟩
      cases rx
      have dd := raw_dict I h1 h3
      have ki : (deepKind X.prog X.w).is s.heap kk c := ⟨rep_isK I hd' rfl k1, k2⟩
      cases e : keyIx d ks with
      | none => rw [e] at hb; cases hb
      | some o =>
        rw [e] at hb
        have hb : some o.isSome = some b := hb
        have at_ := keyIx_at k1 h3 e
        have e2 : (atKey xs kk).isSome = b := by
          rw [← Option.some.inj hb]
          cases o with
          | none => rw [at_.1]; rfl
          | some j => obtain ⟨b', u', _, i2⟩ := at_; rw [i2]; rfl
        have room : (deepKind X.prog X.w).room X.A.in1 := by
          show X.A.in1.units + 8 < cLine
          rw [in1_units]; omega
        cases neg with
        | false => exact wpAny_in_heap room ki h1.sm dd ⟨.bl _, H, I.tok _, rfl, by rw [e2]; exact q⟩
        | true => exact wpAny_notIn_heap room ki h1.sm dd ⟨.bl _, H, I.tok _, rfl, by rw [e2]; exact q⟩
    · rw [if_neg hk] at hb; cases hb
  | str t =>
    cases d <;> first | (cases (show none = some b from hb); done) | skip
    rename_i k
    cases k with
    | nil => cases (show none = some b from hb)
    | cons c k =>
      cases k with
      | nil =>
        cases (show some (t.contains c) = some b from hb)
        cases (show x = _ from hd)
        cases (show y = _ from he')
        have e : decide (c ∈ (strV t).cps.toList) = t.contains c := by
          rw [Bool.eq_iff_iff]; simp [strV]
          exact ⟨fun h => of_decide_eq_true h, fun h => decide_eq_true h⟩
        cases neg with
        | false => exact op_in_sign pins s σ H _ _ v u Q I rx ry ⟨c, strV t, rfl, rfl, by rw [e]; exact q⟩
        | true => exact op_notIn_sign pins s σ H _ _ v u Q I rx ry ⟨c, strV t, rfl, rfl, by rw [e]; exact q⟩
      | cons _ _ => cases (show none = some b from hb)
  | _ => cases (show none = some b from hb)
end

section
variable {X : Cx} {Z : Addr → Prop}
theorem rep_V {P : Program} {w : World} {K : PySem.W.Frag} {H : Hp} {L : Addr → Prop} {m : List Addr} {d : D} {x : V} (h : Rep P w K H L m d x) : (x = .non ↔ d = .non) := by
  cases d with
  | non => exact ⟨fun _ => rfl, fun _ => h⟩
  | bl b => rw [show x = _ from h]; exact ⟨fun z => (nomatch z), fun z => (nomatch z)⟩
  | int b => rw [show x = _ from h]; exact ⟨fun z => (nomatch z), fun z => (nomatch z)⟩
  | str b => rw [show x = _ from h]; exact ⟨fun z => (nomatch z), fun z => (nomatch z)⟩
  | tup xs => obtain ⟨a, _, e, _⟩ := h; rw [e]; exact ⟨fun z => (nomatch z), fun z => (nomatch z)⟩
  | lst xs => obtain ⟨a, _, e, _⟩ := h; rw [e]; exact ⟨fun z => (nomatch z), fun z => (nomatch z)⟩
  | dS _ _ => obtain ⟨a, _, e, _⟩ := h; rw [e]; exact ⟨fun z => (nomatch z), fun z => (nomatch z)⟩
  | dT _ _ => obtain ⟨a, _, _, e, _⟩ := h; rw [e]; exact ⟨fun z => (nomatch z), fun z => (nomatch z)⟩
  | ref _ => obtain ⟨a, e, _⟩ := h; rw [e]; exact ⟨fun z => (nomatch z), fun z => (nomatch z)⟩
  | scr _ => obtain ⟨a, e, _⟩ := h; rw [e]; exact ⟨fun z => (nomatch z), fun z => (nomatch z)⟩
theorem op_cmpD (hu : X.A.units + 64 < cLine) (op : CO) : OpR X (compareOp (copOf op)) (RB2 X Z (cmpD op)) := by
  intro pins s σ H x y v u Q I rx ry h
  obtain ⟨m, S, d, e, b, hr, hd, he, hb, q⟩ := h
  cases op with
  | eq =>
    exact rcEq_run I 39 (show eqN 40 (view S d) (view S e) = some b from hb) (view_rep hr hd) (view_rep hr he) rx ry (by omega) _ _ _ _ ⟨.bl b, H, I, rfl, q⟩
  | ne =>
    have hb : (match eqD (view S d) (view S e) with | some b => some (!b) | none => none) = some b := hb
    cases e1 : eqD (view S d) (view S e) with
    | none => rw [e1] at hb; cases hb
    | some c =>
      rw [e1] at hb
      have hb : some (!c) = some b := hb
      cases hb
      exact rcNe_run I 39 (show eqN 40 (view S d) (view S e) = some c from e1) (view_rep hr hd) (view_rep hr he) rx ry (by omega) _ _ _ _ ⟨.bl (!c), H, I, rfl, q⟩
  | lt =>
    cases d <;> cases e <;> first | (cases (show none = some b from hb); done) | skip
    rename_i i j
    cases (show x = _ from hd); cases (show y = _ from he); cases (show some (decide (i < j)) = some b from hb)
    exact op_lt pins s σ H _ _ v u Q I rx ry ⟨i, j, rfl, rfl, q⟩
  | le =>
    cases d <;> cases e <;> first | (cases (show none = some b from hb); done) | skip
    rename_i i j
    cases (show x = _ from hd); cases (show y = _ from he); cases (show some (decide (i ≤ j)) = some b from hb)
    exact op_le pins s σ H _ _ v u Q I rx ry ⟨i, j, rfl, rfl, q⟩
  | gt =>
    cases d <;> cases e <;> first | (cases (show none = some b from hb); done) | skip
    rename_i i j
    cases (show x = _ from hd); cases (show y = _ from he); cases (show some (decide (j < i)) = some b from hb)
    exact op_gt pins s σ H _ _ v u Q I rx ry ⟨i, j, rfl, rfl, q⟩
  | ge =>
    cases d <;> cases e <;> first | (cases (show none = some b from hb); done) | skip
    rename_i i j
    cases (show x = _ from hd); cases (show y = _ from he); cases (show some (decide (j ≤ i)) = some b from hb)
    exact op_ge pins s σ H _ _ v u Q I rx ry ⟨i, j, rfl, rfl, q⟩
  | isin => exact in_run (neg := false) hu pins s σ H x y v u Q I rx ry ⟨m, S, d, e, b, hr, hd, he, hb, q⟩
  | notin =>
    have hb : (match inD d e S with | some b => some (!b) | none => none) = some b := hb
    cases e1 : inD d e S with
    | none => rw [e1] at hb; cases hb
    | some c =>
      rw [e1] at hb
      have hb : some (!c) = some b := hb
      cases hb
      exact in_run (neg := true) hu pins s σ H x y v u Q I rx ry ⟨m, S, d, e, c, hr, hd, he, e1, q⟩
  | isN =>
    obtain rfl : e = .non := by
      cases e <;> first | rfl | (cases (show none = some b from hb))
    cases (show y = _ from he)
    refine op_isN pins s σ H _ _ v u Q I rx ry ⟨rfl, ?_⟩
    have e1 : decide (x = V.non) = b := by
      rw [Bool.eq_iff_iff, decide_eq_true_eq, rep_V hd]
      cases d <;> first
        | (cases (show some true = some b from hb); simp; done)
        | (cases (show some false = some b from hb); simp; done)
    rw [e1]; exact q
  | notN =>
    obtain rfl : e = .non := by
      cases e <;> first | rfl | (cases (show none = some b from hb))
    cases (show y = _ from he)
    refine op_notN pins s σ H _ _ v u Q I rx ry ⟨rfl, ?_⟩
    have e1 : (!decide (x = V.non)) = b := by
      rw [Bool.eq_iff_iff, Bool.not_eq_true', decide_eq_false_iff_not, rep_V hd]
      cases d <;> first
        | (cases (show some true = some b from hb); simp; done)
        | (cases (show some false = some b from hb); simp; done)
    rw [e1]; exact q
/-- truth -/
theorem tru_run : TruR X (fun x H Q => ∃ m S d b, HRX X Z m S H ∧ RP X H (LL Z m S) m d x ∧ truD d S = some b ∧ Q b H) := by
  intro pins s σ H x v Q I rx h
  obtain ⟨m, S, d, b, hr, hd, hb, q⟩ := h
  have hd' := view_rep hr hd
  refine tru_ok pins s σ H x v Q I rx ⟨b, ?_, q⟩
  unfold truD at hb
  generalize view S d = f at hb hd'
  cases f with
  | non => cases (show x = _ from hd'); exact (Option.some.inj (show some false = some b from hb)).symm
  | bl c => cases (show x = _ from hd'); exact (Option.some.inj (show some c = some b from hb)).symm
  | int i => cases (show x = _ from hd'); exact (Option.some.inj (show some (i != 0) = some b from hb)).symm
  | tup xs =>
    obtain ⟨a, vs, rfl, h1, h2⟩ := hd'
    have e : (!xs.isEmpty) = b := Option.some.inj hb
    refine .inr (.inl ⟨vs, h1.sq, ?_⟩)
    have l := h2.length
    rw [← e]
    cases xs <;> cases vs <;> first | rfl | simp at l
  | lst xs =>
    obtain ⟨a, vs, rfl, h1, h2⟩ := hd'
    have e : (!xs.isEmpty) = b := Option.some.inj hb
    refine .inl ⟨vs, LstAt.sq h1, ?_⟩
    have l := h2.length
    rw [← e]
    cases xs <;> cases vs <;> first | rfl | simp at l
  | _ => cases hb
end
end KL
end
section
set_option Elab.async false
set_option linter.all false
set_option maxRecDepth 100000
set_option maxHeartbeats 2000000
set_option autoImplicit false
/-! KLIdx: subscripts, slices, methods that change nothing. -/
namespace KL
open PySem PySem.Spec PyProof.Rows L2

section
variable {X : Cx} {Z : Addr → Prop} {m : List Addr} {S : Store} {H : Hp} {d : D} {x : V}
theorem dS_at (h : HRX X Z m S H) (hd : RP X H (LL Z m S) m d x) {ks : List Txt} {ds : List D} (e : view S d = .dS ks ds) :
    ∃ a vs, x = .ref a ∧ H a = some (.dK (kvZip ks vs)) ∧ ks.length = vs.length ∧ RPs X H (LL Z m S) m ds vs := by
  cases d with
  | dS ks' ds' =>
    cases (show D.dS ks' ds' = .dS ks ds from e)
    obtain ⟨a, vs, e1, h1, _, h2, h3⟩ := hd
    exact ⟨a, vs, e1, h1, h2, h3⟩
  | ref n =>
    obtain ⟨a, e1, h1⟩ := hd
    cases q : S[n]? with
    | none => simp [view, q] at e
    | some o =>
      cases o with
      | dS ks' ds' =>
        have e2 : D.dS ks' ds' = .dS ks ds := by simpa [view, q] using e
        cases e2
        obtain ⟨vs, h2, h3, _, h4⟩ := h.obj n _ a q rfl h1
        exact ⟨a, vs, e1, h2, h3, h4⟩
      | _ => simp [view, q] at e
  | _ => exact nomatch (show _ = D.dS ks ds from e)
theorem dT_at (h : HRX X Z m S H) (hd : RP X H (LL Z m S) m d x) {ks ds : List D} (e : view S d = .dT ks ds) :
    ∃ a xs vs, x = .ref a ∧ RawD X.prog X.w H a xs ∧ KReps X.prog X.w X.K H (LL Z m S) m ks xs ∧ RPs X H (LL Z m S) m ds vs ∧ Vals vs (xs.map (·.2.2)) := by
  cases d with
  | dT ks' ds' =>
    cases (show D.dT ks' ds' = .dT ks ds from e)
    obtain ⟨a, xs, vs, e1, h1, _, h2, h3, h4⟩ := hd
    exact ⟨a, xs, vs, e1, h1, h2, h3, h4⟩
  | ref n =>
    obtain ⟨a, e1, h1⟩ := hd
    cases q : S[n]? with
    | none => simp [view, q] at e
    | some o =>
      cases o with
      | dT ks' ds' =>
        have e2 : D.dT ks' ds' = .dT ks ds := by simpa [view, q] using e
        cases e2
        obtain ⟨xs, vs, h2, h3, h4, h5⟩ := h.obj n _ a q rfl h1
        exact ⟨a, xs, vs, e1, h2, h3, h4, h5⟩
      | _ => simp [view, q] at e
  | _ => exact nomatch (show _ = D.dT ks ds from e)
theorem view_lst {ys : List D} (e : view S d = .lst ys) : lstOf S d = some ys := by unfold lstOf; rw [e]
theorem view_tup {ys : List D} (e : view S d = .tup ys) : d = .tup ys := by
  cases d with
  | ref n =>
    cases q : S[n]? with
    | none => simp [view, q] at e
    | some o => cases o <;> simp [view, q] at e
  | _ => exact e
theorem view_scr {ys : List Int} (e : view S d = .scr ys) : d = .scr ys := by
  cases d with
  | ref n =>
    cases q : S[n]? with
    | none => simp [view, q] at e
    | some o => cases o <;> simp [view, q] at e
  | _ => exact e
theorem view_str {t : Txt} (e : view S d = .str t) : d = .str t := by
  cases d with
  | ref n =>
    cases q : S[n]? with
    | none => simp [view, q] at e
    | some o => cases o <;> simp [view, q] at e
  | _ => exact e
theorem atI_of {α : Type} {xs : List α} {i : Int} {j : Nat} {v : α} (h : ixOf xs.length i = some j) (e : xs[j]? = some v) : atI xs i = some v := by
  unfold atI
  rw [show ixN xs.length i = some j from h]
  exact e
/-- what stands under a key -/
theorem atKey_val {w : World} {P : Program} {K : PySem.W.Frag} {L : Addr → Prop} {xs : List (KK × Addr × Value)} {vs : List V} {ds : List D} {j : Nat} {kk : KK} {b : Addr} {u : Value} {r : D}
    (hx : xs[j]? = some (kk, b, u)) (hd : Reps P w K H L m ds vs) (hv : Vals vs (xs.map (·.2.2))) (e : ds[j]? = some r) : ∃ v, RelV v u ∧ Rep P w K H L m r v := by
  obtain ⟨v, e1, r1⟩ := hd.at e
  obtain ⟨u', e2, r2⟩ := hv.get e1
  rw [List.getElem?_map, hx] at e2
  cases e2
  exact ⟨v, r2, r1⟩
end
section
variable {X : Cx} {Z : Addr → Prop}
theorem isKey_ref {d : D} {x : V} {H : Hp} {L : Addr → Prop} {m : List Addr} (hk : isKey d = true) (hd : RP X H L m d x) : ∃ c, x = .ref c := by
  cases d <;> first | (cases hk; done) | skip
  obtain ⟨c, _, e, _⟩ := hd
  exact ⟨c, e⟩
theorem deep_room {A : Around} (hu : A.units + 64 < cLine) : (deepKind X.prog X.w).room A.in1 := by
  show A.in1.units + 8 < cLine
  rw [in1_units]; omega
theorem deep_is {pins : List (Addr × Obj)} {σ : L2.St} {H : Hp} {s : Shared} {L : Addr → Prop} {m : List Addr} (I : Inv X pins σ H s) {d : D} {c : Addr} (hk : isKey d = true) (hd : RP X H L m d (.ref c)) :
    ∃ kk, nk d = some kk ∧ (deepKind X.prog X.w).is s.heap kk c := by
  obtain ⟨kk, k1, k2⟩ := isKey_nk hk
  exact ⟨kk, k1, rep_isK I hd rfl k1, k2⟩
theorem ix_D (hu : X.A.units + 64 < cLine) : IxR X (RD2 X Z idxD) := by
  intro value slice pins s σ H x y v u Q I rx ry h hs
  obtain ⟨m, S, d, e, r, hr, hd, he, hb, k⟩ := h
  unfold idxD at hb
  generalize hf : view S d = f at hb
  cases f with
  | tup xs =>
    cases view_tup hf
    cases e <;> first | (cases (show none = some r from hb); done) | skip
    rename_i i
    cases (show y = _ from he)
    obtain ⟨a, vs, rfl, h1, h2⟩ := hd
    have hb : (match ixOf xs.length i with | some j => xs[j]? | none => none) = some r := hb
    cases q : ixOf xs.length i with
    | none => rw [q] at hb; cases hb
    | some j =>
      rw [q] at hb
      obtain ⟨v', e1, r1⟩ := h2.at hb
      exact ix_tup value slice pins s σ H _ _ v u Q I rx ry ⟨a, vs, i, v', rfl, rfl, h1.sq, atI_of (by rw [← h2.length]; exact q) e1, k.here hr r1⟩ hs
  | lst xs =>
    obtain ⟨a, vs, rfl, h1, h2⟩ := lstOf_at hr hd (view_lst hf)
    cases e <;> first | (cases (show none = some r from hb); done) | skip
    rename_i i
    cases (show y = _ from he)
    have hb : (match ixOf xs.length i with | some j => xs[j]? | none => none) = some r := hb
    cases q : ixOf xs.length i with
    | none => rw [q] at hb; cases hb
    | some j =>
      rw [q] at hb
      obtain ⟨v', e1, r1⟩ := h2.at hb
      exact ix_list value slice pins s σ H _ _ v u Q I rx ry ⟨a, vs, i, v', rfl, rfl, .inl (.inl h1), atI_of (by rw [← h2.length]; exact q) e1, k.here hr r1⟩ hs
  | scr ns =>
    cases view_scr hf
    cases e <;> first | (cases (show none = some r from hb); done) | skip
    rename_i i
    cases (show y = _ from he)
    obtain ⟨a, rfl, h1⟩ := hd
    have hb : (match ixOf ns.length i with | some j => (ns[j]?).map D.int | none => none) = some r := hb
    cases q : ixOf ns.length i with
    | none => rw [q] at hb; cases hb
    | some j =>
      rw [q] at hb
      obtain ⟨n, e1, rfl⟩ := Option.map_eq_some_iff.mp hb
      exact ix_list value slice pins s σ H _ _ v u Q I rx ry ⟨a, ns.map V.int, i, .int n, rfl, rfl, h1.sq, atI_of (by rw [List.length_map]; exact q) (by rw [List.getElem?_map, e1]; rfl), k.here hr (v := .int n) rfl⟩ hs
  | dS ks ds =>
    cases e <;> first | (cases (show none = some r from hb); done) | skip
    rename_i t
    cases (show y = _ from he)
    obtain ⟨a, vs, rfl, h1, h3, h4⟩ := dS_at hr hd hf
    cases rx
    have hb : (match keyIxS t ks with | some j => ds[j]? | none => none) = some r := hb
    have kv := kv_val h3 t
    cases q : keyIxS t ks with
    | none => rw [q] at hb; cases hb
    | some j =>
      rw [q] at hb kv
      obtain ⟨v', e1, r1⟩ := h4.at hb
      obtain ⟨v2, e2, r2⟩ := kv
      rw [e1] at e2; cases e2
      have g : DGet H a (kV (Sum.inr (strV t))) (some v') := by rw [← r2]; exact DGet.k h1
      exact tail_any (dict_typeIs I g) PySem.F.slot_dict_getitem.lookup (d_getItem (by omega) I g ry fun w' s3 I3 rw' => ⟨v', H, I3, rw', k.here hr r1⟩) hs
  | dT ks ds =>
    have hb : (if isKey e = true then (match keyIx e ks with | some (some j) => ds[j]? | _ => none) else none) = some r := hb
    by_cases hk : isKey e = true
    · rw [if_pos hk] at hb
      obtain ⟨a, xs, vs, rfl, h1, h3, h4, h5⟩ := dT_at hr hd hf
      obtain ⟨c, rfl⟩ := isKey_ref (X := X) hk he
      cases rx; cases ry
      obtain ⟨kk, k1, ki⟩ := deep_is I hk he
      have dd := raw_dict I h1 h3
      cases q : keyIx e ks with
      | none => rw [q] at hb; cases hb
      | some o =>
        cases o with
        | none => rw [q] at hb; cases hb
        | some j =>
          rw [q] at hb
          obtain ⟨b, u', i1, i2⟩ := keyIx_at k1 h3 q
          obtain ⟨v', r1, r2⟩ := atKey_val i1 h4 h5 hb
          exact tail_any dd.typeIs PySem.F.slot_dict_getitem.lookup (wpAny_getItem_heap (deep_room hu) ki dd i2 ⟨v', H, I.tok _, r1, k.here hr r2⟩) hs
    · rw [if_neg hk] at hb; cases hb
  | _ => cases hb
/-- slices -/
def RSl (X : Cx) (Z : Addr → Prop) : V → Option Int → Option Int → Hp → VK → Prop := fun x lo hi H Q => ∃ m S d r, HRX X Z m S H ∧ RP X H (LL Z m S) m d x ∧ cutD d lo hi S = some r ∧ KD X Z m S H r S Q
theorem cutIx_eq (n d : Nat) (o : Option Int) : cutIx n d o = HT.sIx n d o := by
  cases o with
  | none => rfl
  | some i =>
    unfold cutIx HT.sIx
    by_cases h : i < 0
    · simp only [h, if_true]
      first | rfl | omega | skip
    · simp only [h, if_false]
      first | rfl | omega | skip
theorem cutL_reps {P : Program} {w : World} {K : PySem.W.Frag} {H : Hp} {L : Addr → Prop} {m : List Addr} {ds : List D} {vs : List V} (h : Reps P w K H L m ds vs) (lo hi : Option Int) : Reps P w K H L m (cutL ds lo hi) (cutV vs lo hi) := by
  unfold cutL cutV
  rw [h.length, cutIx_eq, cutIx_eq]
  exact (h.drop _).take _
theorem cutL_whole {α : Type} {xs : List α} {lo hi : Option Int} (h : HT.sIx xs.length 0 lo = 0 ∧ HT.sIx xs.length xs.length hi = xs.length) : cutL xs lo hi = xs := by
  unfold cutL
  rw [cutIx_eq, cutIx_eq, h.1, h.2]
  simp
theorem sl_D : SlR X (RSl X Z) := by
  intro pins s σ H x v vl vu lo hi sl Q I rx hs pl pu h
  obtain ⟨m, S, d, r, hr, hd, hb, k⟩ := h
  unfold cutD at hb
  generalize hf : view S d = f at hb
  cases f with
  | tup xs =>
    cases view_tup hf
    cases (show some (D.tup (cutL xs lo hi)) = some r from hb)
    obtain ⟨a, vs, rfl, h1, h2⟩ := id hd
    refine sl_tupA pins s σ H _ v vl vu lo hi sl Q I rx hs pl pu ⟨a, vs, rfl, h1.sq, fun z => ?_, fun _ p hp => k.new hr hp (hr.tup hp (cutL_reps h2 lo hi))⟩
    rw [← h2.length] at z
    rw [cutL_whole z] at k
    exact k.here hr hd
  | lst xs =>
    cases (show some (D.lst (cutL xs lo hi)) = some r from hb)
    obtain ⟨a, vs, rfl, h1, h2⟩ := lstOf_at hr hd (view_lst hf)
    exact sl_list pins s σ H _ v vl vu lo hi sl Q I rx hs pl pu ⟨a, vs, rfl, .inl (.inl h1), fun p hp => k.new hr hp (hr.lst hp (cutL_reps h2 lo hi))⟩
  | _ => cases hb
end
end KL
end
section
set_option Elab.async false
set_option linter.all false
set_option maxRecDepth 100000
set_option maxHeartbeats 2000000
set_option autoImplicit false
/-! KLBlt: calls of built-in functions. -/
namespace KL
open PySem PySem.Spec PyProof.Rows L2

section
variable {P : Program} {w : World} {K : PySem.W.Frag} {H : Hp} {L : Addr → Prop} {m : List Addr}
theorem ints_V : ∀ {ds : List D} {is : List Int} {vs : List V}, intsOf ds = some is → Reps P w K H L m ds vs → vs = is.map V.int
  | [], is, vs, h, r => by cases (show some [] = some is from h); exact r
  | d :: ds, is, vs, h, r => by
    obtain ⟨v, us, rfl, r1, r2⟩ := r
    cases d <;> first | (cases (show none = some is from h); done) | skip
    rename_i i
    obtain ⟨js, e, rfl⟩ := Option.map_eq_some_iff.mp (show (intsOf ds).map (i :: ·) = some is from h)
    rw [show v = V.int i from r1, ints_V e r2]; rfl
theorem bls_V : ∀ {ds : List D} {is : List Bool} {vs : List V}, blsOf ds = some is → Reps P w K H L m ds vs → vs = is.map V.bl
  | [], is, vs, h, r => by cases (show some [] = some is from h); exact r
  | d :: ds, is, vs, h, r => by
    obtain ⟨v, us, rfl, r1, r2⟩ := r
    cases d <;> first | (cases (show none = some is from h); done) | skip
    rename_i i
    obtain ⟨js, e, rfl⟩ := Option.map_eq_some_iff.mp (show (blsOf ds).map (i :: ·) = some is from h)
    rw [show v = V.bl i from r1, bls_V e r2]; rfl
theorem strs_V : ∀ {ds : List D} {is : List Txt} {vs : List V}, strsOf ds = some is → Reps P w K H L m ds vs → vs = (is.map strV).map V.str
  | [], is, vs, h, r => by cases (show some [] = some is from h); exact r
  | d :: ds, is, vs, h, r => by
    obtain ⟨v, us, rfl, r1, r2⟩ := r
    cases d <;> first | (cases (show none = some is from h); done) | skip
    rename_i i
    obtain ⟨js, e, rfl⟩ := Option.map_eq_some_iff.mp (show (strsOf ds).map (i :: ·) = some is from h)
    rw [show v = V.str (strV i) from r1, strs_V e r2]; rfl
theorem ints_reps (is : List Int) : Reps P w K H L m (is.map D.int) (is.map V.int) := by
  induction is with
  | nil => rfl
  | cons i is ih => exact ⟨.int i, _, rfl, rfl, ih⟩
theorem strs_reps (is : List Txt) : Reps P w K H L m (is.map D.str) ((is.map strV).map V.str) := by
  induction is with
  | nil => rfl
  | cons i is ih => exact ⟨.str (strV i), _, rfl, rfl, ih⟩
end
theorem minI_spec : ∀ (ys : List Int) (x : Int), minI x ys ∈ x :: ys ∧ ∀ z ∈ x :: ys, minI x ys ≤ z
  | [], x => ⟨by simp [minI], by simp [minI]⟩
  | y :: ys, x => by
    obtain ⟨h1, h2⟩ := minI_spec ys (if y < x then y else x)
    refine ⟨?_, fun z hz => ?_⟩
    · show minI (if y < x then y else x) ys ∈ x :: y :: ys
      rcases List.mem_cons.mp h1 with h | h
      · rw [h]; split <;> simp
      · simp [h]
    · show minI (if y < x then y else x) ys ≤ z
      have h0 := h2 _ List.mem_cons_self
      rcases List.mem_cons.mp hz with rfl | hz
      · split at h0 <;> (try split) <;> omega
      · rcases List.mem_cons.mp hz with rfl | hz
        · split at h0 <;> (try split) <;> omega
        · exact h2 z (List.mem_cons_of_mem _ hz)
theorem maxI_spec : ∀ (ys : List Int) (x : Int), maxI x ys ∈ x :: ys ∧ ∀ z ∈ x :: ys, z ≤ maxI x ys
  | [], x => ⟨by simp [maxI], by simp [maxI]⟩
  | y :: ys, x => by
    obtain ⟨h1, h2⟩ := maxI_spec ys (if y > x then y else x)
    refine ⟨?_, fun z hz => ?_⟩
    · show maxI (if y > x then y else x) ys ∈ x :: y :: ys
      rcases List.mem_cons.mp h1 with h | h
      · rw [h]; split <;> simp
      · simp [h]
    · show z ≤ maxI (if y > x then y else x) ys
      have h0 := h2 _ List.mem_cons_self
      rcases List.mem_cons.mp hz with rfl | hz
      · split at h0 <;> (try split) <;> omega
      · rcases List.mem_cons.mp hz with rfl | hz
        · split at h0 <;> (try split) <;> omega
        · exact h2 z (List.mem_cons_of_mem _ hz)
/-- a call by data -/
def RC (X : Cx) (Z : Addr → Prop) (f : List D → Store → Option D) : List V → Hp → VK → Prop := fun xs H Q => ∃ m S ds r, HRX X Z m S H ∧ RPs X H (LL Z m S) m ds xs ∧ f ds S = some r ∧ KD X Z m S H r S Q
section
variable {X : Cx} {Z : Addr → Prop} {H : Hp} {L : Addr → Prop} {m : List Addr}
theorem RPs.one {d : D} {xs : List V} (h : RPs X H L m [d] xs) : ∃ x, xs = [x] ∧ RP X H L m d x := by
  obtain ⟨v, us, rfl, h1, h2⟩ := h
  rw [show us = [] from h2]
  exact ⟨v, rfl, h1⟩
theorem RPs.two {d e : D} {xs : List V} (h : RPs X H L m [d, e] xs) : ∃ x y, xs = [x, y] ∧ RP X H L m d x ∧ RP X H L m e y := by
  obtain ⟨v, us, rfl, h1, h2⟩ := h
  obtain ⟨y, rfl, h3⟩ := RPs.one h2
  exact ⟨v, y, rfl, h1, h3⟩
theorem view_str_x {S : Store} {d : D} {x : V} {t : Txt} (hd : RP X H L m d x) (e : view S d = .str t) : x = .str (strV t) := by
  rw [view_str e] at hd; exact hd
theorem call_len : CallR X (.builtin "len") (RC X Z (bfD .len)) := by
  intro pins s σ H xs us Q I r h
  obtain ⟨m, S, ds, d, hr, hd, hb, k⟩ := h
  match ds, hb with
  | [], hb => cases hb
  | _ :: _ :: _, hb => cases hb
  | [e], hb =>
    obtain ⟨x, rfl, he⟩ := RPs.one hd
    have hb : (match view S e with
      | .str s => if s.length ≤ lineN then some (D.int s.length) else none
      | .tup xs => some (.int xs.length)
      | .lst xs => some (.int xs.length)
      | .scr ns => some (.int ns.length)
      | _ => none) = some d := hb
    generalize hf : view S e = f at hb
    cases f with
    | str t =>
      have hb : (if t.length ≤ lineN then some (D.int t.length) else none) = some d := hb
      by_cases hl : t.length ≤ lineN
      · rw [if_pos hl] at hb; cases hb
        cases view_str_x he hf
        exact call_len_str pins s σ H _ us Q I r ⟨_, rfl, by rw [strV_len, ← lineN_eq]; exact hl, by rw [strV_len]; exact k.here hr (v := .int t.length) rfl⟩
      · rw [if_neg hl] at hb; cases hb
    | tup xs =>
      cases (show some (D.int xs.length) = some d from hb)
      rw [view_tup hf] at he
      obtain ⟨a, vs, rfl, h1, h2⟩ := he
      exact call_len_seq pins s σ H _ us Q I r ⟨a, vs, rfl, .inr h1.sq, by rw [← h2.length]; exact k.here hr (v := .int xs.length) rfl⟩
    | lst xs =>
      cases (show some (D.int xs.length) = some d from hb)
      obtain ⟨a, vs, rfl, h1, h2⟩ := lstOf_at hr he (view_lst hf)
      exact call_len_seq pins s σ H _ us Q I r ⟨a, vs, rfl, .inl (.inl (.inl h1)), by rw [← h2.length]; exact k.here hr (v := .int xs.length) rfl⟩
    | scr ns =>
      cases (show some (D.int ns.length) = some d from hb)
      rw [view_scr hf] at he
      obtain ⟨a, rfl, h1⟩ := he
      exact call_len_seq pins s σ H _ us Q I r ⟨a, _, rfl, .inl h1.sq, by rw [List.length_map]; exact k.here hr (v := .int ns.length) rfl⟩
    | _ => cases hb
/-- one number in -/
theorem RC.int1 {f : List D → Store → Option D} {xs : List V} {H : Hp} {Q : VK} (h : RC X Z f xs H Q) (hf : ∀ ds S r, f ds S = some r → ∃ i, ds = [.int i]) :
    ∃ m S i r, HRX X Z m S H ∧ xs = [.int i] ∧ f [.int i] S = some r ∧ KD X Z m S H r S Q := by
  obtain ⟨m, S, ds, r, hr, hd, hb, k⟩ := h
  obtain ⟨i, rfl⟩ := hf _ _ _ hb
  obtain ⟨x, rfl, he⟩ := RPs.one hd
  exact ⟨m, S, i, r, hr, by rw [show x = V.int i from he], hb, k⟩
theorem call_absD : CallR X (.builtin "abs") (RC X Z (bfD .abs)) := by
  intro pins s σ H xs us Q I r h
  obtain ⟨m, S, i, d, hr, rfl, hb, k⟩ := h.int1 (fun ds S r e => by
    match ds, e with
    | [], e => cases e
    | _ :: _ :: _, e => cases (show none = some r from by rw [← e]; rename_i a b c; cases a <;> rfl)
    | [x], e => cases x <;> first | exact ⟨_, rfl⟩ | cases (show none = some r from e))
  cases (show some (D.int (if i < 0 then -i else i)) = some d from hb)
  exact call_abs pins s σ H _ us Q I r ⟨i, rfl, k.here hr (v := .int _) rfl⟩
theorem min_eq (i : Int) (is : List Int) (z : Int) (h : z ∈ i :: is) (h2 : ∀ y ∈ i :: is, z ≤ y) : z = minI i is := by
  obtain ⟨h3, h4⟩ := minI_spec is i
  have := h2 _ h3
  have := h4 _ h
  omega
theorem max_eq (i : Int) (is : List Int) (z : Int) (h : z ∈ i :: is) (h2 : ∀ y ∈ i :: is, y ≤ z) : z = maxI i is := by
  obtain ⟨h3, h4⟩ := maxI_spec is i
  have := h2 _ h3
  have := h4 _ h
  omega
theorem call_minL (hc : X.calm = true) : CallR X (.builtin "min") (RC X Z (bfD .minL)) := by
  intro pins s σ H xs us Q I r h
  obtain ⟨m, S, ds, d, hr, hd, hb, k⟩ := h
  match ds, hb with
  | [], hb => cases hb
  | _ :: _ :: _, hb => cases hb
  | [e], hb =>
    obtain ⟨x, rfl, he⟩ := RPs.one hd
    have hb : (match lstOf S e with
      | some xs => match intsOf xs with
        | some (i :: is) => some (D.int (minI i is))
        | _ => none
      | none => none) = some d := hb
    cases q : lstOf S e with
    | none => rw [q] at hb; cases hb
    | some ys =>
      rw [q] at hb
      have hb : (match intsOf ys with
        | some (i :: is) => some (D.int (minI i is))
        | _ => none) = some d := hb
      cases q2 : intsOf ys with
      | none => rw [q2] at hb; cases hb
      | some js =>
        rw [q2] at hb
        cases js with
        | nil => cases hb
        | cons i is =>
          cases (show some (D.int (minI i is)) = some d from hb)
          obtain ⟨a, vs, rfl, h1, h2⟩ := lstOf_at hr he q
          rw [ints_V q2 h2] at h1
          exact cr_min hc pins s σ H _ us Q I r ⟨a, i :: is, rfl, .inl (.inl h1), by simp, fun z hz hy => by
            rw [min_eq i is z hz hy]; exact k.here hr (v := .int _) rfl⟩
theorem call_maxL (hc : X.calm = true) : CallR X (.builtin "max") (RC X Z (bfD .maxL)) := by
  intro pins s σ H xs us Q I r h
  obtain ⟨m, S, ds, d, hr, hd, hb, k⟩ := h
  match ds, hb with
  | [], hb => cases hb
  | _ :: _ :: _, hb => cases hb
  | [e], hb =>
    obtain ⟨x, rfl, he⟩ := RPs.one hd
    have hb : (match lstOf S e with
      | some xs => match intsOf xs with
        | some (i :: is) => some (D.int (maxI i is))
        | _ => none
      | none => none) = some d := hb
    cases q : lstOf S e with
    | none => rw [q] at hb; cases hb
    | some ys =>
      rw [q] at hb
      have hb : (match intsOf ys with
        | some (i :: is) => some (D.int (maxI i is))
        | _ => none) = some d := hb
      cases q2 : intsOf ys with
      | none => rw [q2] at hb; cases hb
      | some js =>
        rw [q2] at hb
        cases js with
        | nil => cases hb
        | cons i is =>
          cases (show some (D.int (maxI i is)) = some d from hb)
          obtain ⟨a, vs, rfl, h1, h2⟩ := lstOf_at hr he q
          rw [ints_V q2 h2] at h1
          exact cr_max hc pins s σ H _ us Q I r ⟨a, i :: is, rfl, .inl (.inl h1), by simp, fun z hz hy => by
            rw [max_eq i is z hz hy]; exact k.here hr (v := .int _) rfl⟩
/-- two numbers in -/
theorem RC.int2 {f : List D → Store → Option D} {xs : List V} {H : Hp} {Q : VK} (h : RC X Z f xs H Q) (hf : ∀ ds S r, f ds S = some r → ∃ i j, ds = [.int i, .int j]) :
    ∃ m S i j r, HRX X Z m S H ∧ xs = [.int i, .int j] ∧ f [.int i, .int j] S = some r ∧ KD X Z m S H r S Q := by
  obtain ⟨m, S, ds, r, hr, hd, hb, k⟩ := h
  obtain ⟨i, j, rfl⟩ := hf _ _ _ hb
  obtain ⟨x, y, rfl, he, he2⟩ := RPs.two hd
  exact ⟨m, S, i, j, r, hr, by rw [show x = V.int i from he, show y = V.int j from he2], hb, k⟩
theorem call_min2D (hc : X.calm = true) : CallR X (.builtin "min") (RC X Z (bfD .min2)) := by
  intro pins s σ H xs us Q I r h
  obtain ⟨m, S, i, j, d, hr, rfl, hb, k⟩ := h.int2 (fun ds S r e => by
    match ds, e with
    | [.int i, .int j], e => exact ⟨_, _, rfl⟩)
  cases (show some (D.int (if j < i then j else i)) = some d from hb)
  exact call_min2 hc pins s σ H _ us Q I r ⟨i, j, rfl, k.here hr (v := .int _) rfl⟩
theorem call_max2D (hc : X.calm = true) : CallR X (.builtin "max") (RC X Z (bfD .max2)) := by
  intro pins s σ H xs us Q I r h
  obtain ⟨m, S, i, j, d, hr, rfl, hb, k⟩ := h.int2 (fun ds S r e => by
    match ds, e with
    | [.int i, .int j], e => exact ⟨_, _, rfl⟩)
  cases (show some (D.int (if j > i then j else i)) = some d from hb)
  exact call_max2 hc pins s σ H _ us Q I r ⟨i, j, rfl, k.here hr (v := .int _) rfl⟩
/-- a list of truth values in -/
theorem RC.bls {g : List Bool → Bool} {f : BF} (hg : ∀ e S, bfD f [e] S = match lstOf S e with
      | some xs => match blsOf xs with
        | some bs => some (D.bl (g bs))
        | none => none
      | none => none) (hn : ∀ ds S, ds.length ≠ 1 → bfD f ds S = none) {xs : List V} {H : Hp} {Q : VK} (h : RC X Z (bfD f) xs H Q) :
    ∃ (a : Addr) (bs : List Bool), xs = [V.ref a] ∧ SqL X.K H a (bs.map V.bl) ∧ Q (.bl (g bs)) H := by
  obtain ⟨m, S, ds, d, hr, hd, hb, k⟩ := h
  by_cases hl : ds.length = 1
  · obtain ⟨e, rfl⟩ := List.length_eq_one_iff.mp hl
    obtain ⟨x, rfl, he⟩ := RPs.one hd
    rw [hg] at hb
    cases q : lstOf S e with
    | none => rw [q] at hb; cases hb
    | some ys =>
      rw [q] at hb
      have hb : (match blsOf ys with
        | some bs => some (D.bl (g bs))
        | none => none) = some d := hb
      cases q2 : blsOf ys with
      | none => rw [q2] at hb; cases hb
      | some bs =>
        rw [q2] at hb
        cases (show some (D.bl (g bs)) = some d from hb)
        obtain ⟨a, vs, rfl, h1, h2⟩ := lstOf_at hr he q
        rw [bls_V q2 h2] at h1
        exact ⟨a, bs, rfl, .inl (.inl h1), k.here hr (v := .bl _) rfl⟩
  · rw [hn ds S hl] at hb; cases hb
theorem call_anyD (hc : X.calm = true) : CallR X (.builtin "any") (RC X Z (bfD .any)) := by
  intro pins s σ H xs us Q I r h
  exact cr_any hc pins s σ H _ us Q I r (h.bls (g := fun bs => bs.any id) (fun _ _ => rfl) fun ds S h => by
    match ds, h with
    | [], h => rfl
    | [_], h => exact absurd rfl h
    | _ :: _ :: _, h => rfl)
theorem call_allD (hc : X.calm = true) : CallR X (.builtin "all") (RC X Z (bfD .all)) := by
  intro pins s σ H xs us Q I r h
  exact cr_all hc pins s σ H _ us Q I r (h.bls (g := fun bs => bs.all id) (fun _ _ => rfl) fun ds S h => by
    match ds, h with
    | [], h => rfl
    | [_], h => exact absurd rfl h
    | _ :: _ :: _, h => rfl)
theorem call_intD : CallR X (.type "int") (RC X Z (bfD .intF)) := by
  intro pins s σ H xs us Q I r h
  obtain ⟨m, S, ds, d, hr, hd, hb, k⟩ := h
  match ds, hb with
  | [.int i], hb =>
    obtain ⟨x, rfl, he⟩ := RPs.one hd
    cases (show x = _ from he)
    cases (show some (D.int i) = some d from hb)
    exact call_int1 pins s σ H _ us Q I r (.inl ⟨i, rfl, k.here hr (v := .int i) rfl⟩)
  | [.bl b], hb =>
    obtain ⟨x, rfl, he⟩ := RPs.one hd
    cases (show x = _ from he)
    cases (show some (D.int (if b then 1 else 0)) = some d from hb)
    exact call_int1 pins s σ H _ us Q I r (.inr ⟨b, rfl, k.here hr (v := .int _) rfl⟩)
theorem strInt_eq {i : Int} (h : 0 ≤ i) : strV (strInt i) = (toString i : String) := by
  obtain ⟨n, rfl⟩ := Int.eq_ofNat_of_zero_le h
  refine TL.ext_tl ?_
  rw [TL.tl_num]; rfl
theorem call_strD : CallR X (.type "str") (RC X Z (bfD .strF)) := by
  intro pins s σ H xs us Q I r h
  obtain ⟨m, S, i, d, hr, rfl, hb, k⟩ := h.int1 (fun ds S r e => by
    match ds, e with
    | [.int i], e => exact ⟨_, rfl⟩)
  obtain ⟨c, rfl⟩ := some_if (show (if (decide (0 ≤ i) && decide (i.natAbs.log2 < 1920)) = true then some (D.str (strInt i)) else none) = some d from hb)
  simp only [Bool.and_eq_true, decide_eq_true_eq] at c
  exact call_str_int pins s σ H _ us Q I r ⟨i, rfl, c.2, by rw [← strInt_eq c.1]; exact k.here hr (v := .str _) rfl⟩
theorem kv_keys : ∀ {ks : List Txt} {vs : List V}, ks.length = vs.length → (kvZip ks vs).map (fun kv => kV kv.1) = (ks.map strV).map V.str
  | [], _, _ => rfl
  | k :: ks, [], h => by simp at h
  | k :: ks, v :: vs, h => by
    show kV (Sum.inr (strV k)) :: (kvZip ks vs).map (fun kv => kV kv.1) = _
    rw [kv_keys (by simpa using h)]; rfl
theorem call_listD' (hc : X.calm = true) : CallR X (.type "list") (RC X Z (bfD .listF)) := by
  intro pins s σ H xs us Q I r h
  obtain ⟨m, S, ds, d, hr, hd, hb, k⟩ := h
  match ds, hb with
  | [], hb => cases hb
  | _ :: _ :: _, hb => cases hb
  | [e], hb =>
    obtain ⟨x, rfl, he⟩ := RPs.one hd
    have hb : (match view S e with
      | .tup xs => some (D.lst xs)
      | .lst xs => some (.lst xs)
      | .dS ks _ => some (.lst (ks.map .str))
      | _ => none) = some d := hb
    generalize hf : view S e = f at hb
    cases f with
    | tup xs =>
      cases (show some (D.lst xs) = some d from hb)
      rw [view_tup hf] at he
      obtain ⟨a, vs, rfl, h1, h2⟩ := he
      exact call_list_of pins s σ H _ us Q I r ⟨a, vs, rfl, .inr h1.sq, fun p hp => k.new hr hp (hr.lst hp h2)⟩
    | lst xs =>
      cases (show some (D.lst xs) = some d from hb)
      obtain ⟨a, vs, rfl, h1, h2⟩ := lstOf_at hr he (view_lst hf)
      exact call_list_of pins s σ H _ us Q I r ⟨a, vs, rfl, .inl (.inl (.inl h1)), fun p hp => k.new hr hp (hr.lst hp h2)⟩
    | dS ks es =>
      cases (show some (D.lst (ks.map .str)) = some d from hb)
      obtain ⟨a, vs, rfl, h1, h2, h3⟩ := dS_at hr he hf
      exact call_list_dK hc pins s σ H _ us Q I r ⟨a, _, rfl, h1, fun p hp => by rw [kv_keys h2]; exact k.new hr hp (hr.lst hp (strs_reps ks))⟩
    | _ => cases hb
theorem call_tupD : CallR X (.type "tuple") (RC X Z (bfD .tupF)) := by
  intro pins s σ H xs us Q I r h
  obtain ⟨m, S, ds, d, hr, hd, hb, k⟩ := h
  match ds, hb with
  | [], hb => cases hb
  | _ :: _ :: _, hb => cases hb
  | [e], hb =>
    obtain ⟨x, rfl, he⟩ := RPs.one hd
    have hb : (match view S e with
      | .tup xs => some (D.tup xs)
      | .lst xs => some (.tup xs)
      | _ => none) = some d := hb
    generalize hf : view S e = f at hb
    cases f with
    | tup xs =>
      cases (show some (D.tup xs) = some d from hb)
      rw [view_tup hf] at he
      obtain ⟨a, vs, rfl, h1, h2⟩ := id he
      exact call_tuple_of pins s σ H _ us Q I r ⟨a, vs, rfl, .inr ⟨h1.sq, k.here hr he⟩⟩
    | lst xs =>
      cases (show some (D.tup xs) = some d from hb)
      obtain ⟨a, vs, rfl, h1, h2⟩ := lstOf_at hr he (view_lst hf)
      exact call_tuple_of pins s σ H _ us Q I r ⟨a, vs, rfl, .inl ⟨.inl (.inl h1), fun p hp => k.new hr hp (hr.tup hp h2)⟩⟩
    | _ => cases hb
end
end KL
end
section
set_option Elab.async false
set_option linter.all false
set_option maxRecDepth 100000
set_option maxHeartbeats 2000000
set_option autoImplicit false
/-! KLExp: readings by data; expressions. -/
namespace KL
open PySem PySem.Spec PyProof.Rows L2

/-- the slots by data -/
def ER (X : Cx) (H : Hp) (L : Addr → Prop) (m : List Addr) (σ : L2.St) (ρ : Env) : Prop := σ.length = ρ.length ∧ ∀ (i : Nat) (d : D), ρ[i]? = some (some d) → ∃ v, σ[i]? = some (some v) ∧ RP X H L m d v
theorem ER.mono {X : Cx} {H H' : Hp} {L L' : Addr → Prop} {m m' : List Addr} {σ : L2.St} {ρ : Env} (x : Mono H L m H' L' m') (h : ER X H L m σ ρ) : ER X H' L' m' σ ρ :=
  ⟨h.1, fun i d e => let ⟨v, h1, h2⟩ := h.2 i d e; ⟨v, h1, h2.mono x⟩⟩
/-- an expression's reading by data -/
def tD (X : Cx) (f : Env → Store → Out D) : TE := fun σ H Q => ∃ Z ρ m S d S', ER X H (LL Z m S) m σ ρ ∧ HRX X Z m S H ∧ f ρ S = some (.ok d S') ∧ KD X Z m S H d S' Q
def KA (X : Cx) (Z : Addr → Prop) (m : List Addr) (S : Store) (H : Hp) (ds : List D) (S' : Store) (Q : List V → Hp → Prop) : Prop :=
  ∀ m' H' vs, Ext m S H m' S' H' → HRX X Z m' S' H' → RPs X H' (LL Z m' S') m' ds vs → Q vs H'
def tDs (X : Cx) (f : Env → Store → Out (List D)) : TA := fun σ H Q => ∃ Z ρ m S ds S', ER X H (LL Z m S) m σ ρ ∧ HRX X Z m S H ∧ f ρ S = some (.ok ds S') ∧ KA X Z m S H ds S' Q
def KB (X : Cx) (Z : Addr → Prop) (m : List Addr) (S : Store) (H : Hp) (S' : Store) (Q : Hp → Prop) : Prop := ∀ m' H', Ext m S H m' S' H' → HRX X Z m' S' H' → Q H'
def tQ (X : Cx) (f : Env → Store → Out Bool) : TT := fun σ H Q => ∃ Z ρ m S b S', ER X H (LL Z m S) m σ ρ ∧ HRX X Z m S H ∧ f ρ S = some (.ok b S') ∧ KB X Z m S H S' (Q b)
def tOI (X : Cx) (f : Env → Store → Out (Option Int)) : TO := fun σ H Q => ∃ Z ρ m S b S', ER X H (LL Z m S) m σ ρ ∧ HRX X Z m S H ∧ f ρ S = some (.ok b S') ∧ KB X Z m S H S' (Q b)
theorem PE.imp {X : Cx} {e : Expr} {t t' : TE} (h : PE X e t) (f : ∀ σ H Q, t' σ H Q → t σ H Q) : PE X e t' := ⟨fun pins s σ H Q I q => h.run pins s σ H Q I (f σ H Q q)⟩
theorem PT.imp {X : Cx} {e : Expr} {t t' : TT} (h : PT X e t) (f : ∀ σ H Q, t' σ H Q → t σ H Q) : PT X e t' := ⟨fun pins s σ H Q I q => h.run pins s σ H Q I (f σ H Q q)⟩
theorem PW.imp {X : Cx} {e : Expr} {t t' : TT} (h : PW X e t) (f : ∀ σ H Q, t' σ H Q → t σ H Q) : PW X e t' := ⟨fun wh pins s σ H Q I q => h.run wh pins s σ H Q I (f σ H Q q)⟩
theorem PA.imp {X : Cx} {e : List Expr} {t t' : TA} (h : PA X e t) (f : ∀ σ H Q, t' σ H Q → t σ H Q) : PA X e t' := ⟨fun p pins s σ H Q I q => h.run p pins s σ H Q I (f σ H Q q)⟩
theorem PO.imp {X : Cx} {e : Option Expr} {t t' : TO} (h : PO X e t) (f : ∀ σ H Q, t' σ H Q → t σ H Q) : PO X e t' := ⟨fun pins s σ H Q I q => h.run pins s σ H Q I (f σ H Q q)⟩
theorem bnd_ok {α β : Type} {r : Out α} {f : α → Store → Out β} {b : β} {S' : Store} (h : bnd r f = some (.ok b S')) : ∃ a S1, r = some (.ok a S1) ∧ f a S1 = some (.ok b S') := by
  cases r with
  | none => cases h
  | some r => cases r with
    | ok a S1 => exact ⟨a, S1, rfl, h⟩
    | exc c p S1 => cases h
theorem lift_ok {α : Type} {o : Option α} {S S' : Store} {a : α} (h : lift o S = some (.ok a S')) : o = some a ∧ S = S' := by
  cases o with
  | none => cases h
  | some b => cases h; exact ⟨rfl, rfl⟩
theorem ok_ok {α : Type} {a b : α} {S S' : Store} (h : ok a S = some (Res.ok b S')) : a = b ∧ S = S' := by
  cases h; exact ⟨rfl, rfl⟩
theorem noexc_ok {α : Type} {r : Out α} {a : α} {S : Store} (h : noexc r = some (.ok a S)) : r = some (.ok a S) := by
  cases r with
  | none => cases h
  | some r => cases r with
    | ok b S1 => exact h
    | exc c p S1 => cases h
section
variable {X : Cx} {Z : Addr → Prop} {m : List Addr} {S : Store} {H : Hp} {σ : L2.St} {ρ : Env}
/-! ### names and constants -/
theorem pe_varD {i : Nat} {x : Str} {pos : Pos} (hN : X.N[i]? = some x) (hv : Vis X.env.scope x) (hd : (x == ("__debug__" : Str)) = false) (hcd : (x == ("__classdict__" : Str)) = false) {f : Env → Store → Out D}
    (hf : ∀ ρ S d S', f ρ S = some (.ok d S') → ρ[i]? = some (some d) ∧ S' = S) : PE X (.Name x pos) (tD X f) :=
  PE.imp (pe_var hN hv hd hcd) fun σ H Q ⟨Z, ρ, m, S, d, S', er, hr, e, k⟩ => by
    obtain ⟨e1, rfl⟩ := hf _ _ _ _ e
    obtain ⟨v, h1, h2⟩ := er.2 i d e1
    exact ⟨v, h1, k.here hr h2⟩
theorem pe_conD {e : Expr} {c : D} {v : V} (h : PE X e (tC v)) (hc : ∀ H L m, RP X H L m c v) {f : Env → Store → Out D} (hf : ∀ ρ S d S', f ρ S = some (.ok d S') → d = c ∧ S' = S) : PE X e (tD X f) :=
  PE.imp h fun σ H Q ⟨Z, ρ, m, S, d, S', er, hr, e, k⟩ => by
    obtain ⟨rfl, rfl⟩ := hf _ _ _ _ e
    exact k.here hr (hc _ _ _)
/-! ### argument lists -/
def notStar : Expr → Bool
  | .Starred _ _ => false
  | _ => true
theorem star_cons {e : Expr} {es : List Expr} {env : PySem.Env} (h : notStar e = true) : starEach (e :: es) env = (false, eval e env) :: starEach es env := by
  cases e <;> first | rfl | cases h
def noStars (es : List Expr) : Bool := es.all notStar
theorem back_plain {pos : Pos} {env : PySem.Env} : ∀ {es : List Expr}, noStars es = true → (backTo pos (starEach es env)).any (·.1) = false ∧ (backTo pos (starEach es env)).all (fun x => !x.1) = true
  | [], _ => ⟨rfl, rfl⟩
  | e :: es, h => by
    have h' : (notStar e && es.all notStar) = true := h
    rw [Bool.and_eq_true] at h'
    obtain ⟨i1, i2⟩ := back_plain (pos := pos) (env := env) (es := es) h'.2
    rw [star_cons h'.1]
    show (false || (backTo pos (starEach es env)).any (·.1)) = false ∧ (true && (backTo pos (starEach es env)).all (fun x => !x.1)) = true
    rw [i1, i2]; exact ⟨rfl, rfl⟩
theorem pa_nilD {f : Env → Store → Out (List D)} (hf : ∀ ρ S d S', f ρ S = some (.ok d S') → d = [] ∧ S' = S) : PA X [] (tDs X f) :=
  PA.imp pa_nil fun σ H Q ⟨Z, ρ, m, S, d, S', er, hr, e, k⟩ => by
    obtain ⟨rfl, rfl⟩ := hf _ _ _ _ e
    exact k m H [] Ext.refl hr rfl
theorem pa_consD {e : Expr} {es : List Expr} {f : Env → Store → Out D} {g h : Env → Store → Out (List D)} (ha : PE X e (tD X f)) (hs : PA X es (tDs X g)) (he : notStar e = true)
    (hh : ∀ ρ S, h ρ S = bnd (f ρ S) fun d S => bnd (g ρ S) fun ds S => ok (d :: ds) S) : PA X (e :: es) (tDs X h) :=
  PA.imp (pa_cons ha hs (star_cons he)) fun σ H Q ⟨Z, ρ, m, S, d, S', er, hr, e, k⟩ => by
    rw [hh] at e
    obtain ⟨x, S1, e1, e⟩ := bnd_ok e
    obtain ⟨xs, S2, e2, e⟩ := bnd_ok e
    obtain ⟨rfl, rfl⟩ := ok_ok e
    exact ⟨Z, ρ, m, S, x, S1, er, hr, e1, fun m1 H1 v x1 hr1 r1 => ⟨Z, ρ, m1, S1, xs, S2, er.mono x1.mono, hr1, e2, fun m2 H2 vs x2 hr2 r2 => k m2 H2 (v :: vs) (x1.trans x2) hr2 ⟨v, vs, rfl, r1.mono x2.mono, r2⟩⟩⟩
/-! ### tuples, lists -/
theorem pe_tupD {es : List Expr} {x1 : Nat} {pos : Pos} {g : Env → Store → Out (List D)} {f : Env → Store → Out D} (hs : PA X es (tDs X g)) (hl : ∀ ρ S ds S', g ρ S = some (.ok ds S') → ds.length ≤ 1000)
    (hf : ∀ ρ S, f ρ S = bnd (g ρ S) fun ds S => ok (.tup ds) S) : PE X (.Tuple es x1 pos) (tD X f) :=
  PE.imp (pe_tup hs) fun σ H Q ⟨Z, ρ, m, S, d, S', er, hr, e, k⟩ => by
    rw [hf] at e
    obtain ⟨ds, S1, e1, e⟩ := bnd_ok e
    obtain ⟨rfl, rfl⟩ := ok_ok e
    exact ⟨Z, ρ, m, S, ds, S1, er, hr, e1, fun m1 H1 vs x1 hr1 r1 => ⟨by rw [← r1.length, sizeLine_eq]; have := hl _ _ _ _ e1; omega, fun p hp => k m1 _ _ (x1.trans (hr1.ext hp _)) (hr1.fresh hp _) (hr1.tup hp r1)⟩⟩
theorem pe_lstD {es : List Expr} {pos : Pos} {g : Env → Store → Out (List D)} {f : Env → Store → Out D} (hs : PA X es (tDs X g)) (hl : ∀ ρ S ds S', g ρ S = some (.ok ds S') → ds.length ≤ 1000)
    (hf : ∀ ρ S, f ρ S = bnd (g ρ S) fun ds S => ok (.lst ds) S) : PE X (.List es pos) (tD X f) :=
  PE.imp (pe_lst hs) fun σ H Q ⟨Z, ρ, m, S, d, S', er, hr, e, k⟩ => by
    rw [hf] at e
    obtain ⟨ds, S1, e1, e⟩ := bnd_ok e
    obtain ⟨rfl, rfl⟩ := ok_ok e
    exact ⟨Z, ρ, m, S, ds, S1, er, hr, e1, fun m1 H1 vs x1 hr1 r1 => ⟨by rw [← r1.length, sizeLine_eq]; have := hl _ _ _ _ e1; omega, fun p hp => k m1 _ _ (x1.trans (hr1.ext hp _)) (hr1.fresh hp _) (hr1.lst hp r1)⟩⟩
end
/-! ### a thing of the store is laid -/
section
variable {P : Program} {w : World} {K : PySem.W.Frag} {Z : Addr → Prop} {m : List Addr} {S : Store} {H : Hp} {p : Addr}
theorem Ext.push (h : HR P w K Z m S H) (hp : H p = none) (o : HO) (so : SO) : Ext m S H (m ++ [p]) (S ++ [so]) (upd H p o) := by
  refine ⟨⟨[p], rfl⟩, fun b u hb _ => updne hp hb, fun b u hb n z => ?_⟩
  obtain ⟨i, q, h1, h2, h3⟩ := z
  by_cases hi : i < S.length
  · rw [List.getElem?_append_left hi] at h1
    rw [List.getElem?_append_left (by rw [h.len]; exact hi)] at h3
    exact n ⟨i, q, h1, h2, h3⟩
  · rw [List.getElem?_append_right (by rw [h.len]; omega)] at h3
    have hm : b ∈ [p] := List.mem_of_getElem? h3
    rw [List.mem_singleton] at hm
    rw [hm, hp] at hb
    cases hb
theorem HR.push (h : HR P w K Z m S H) (hp : H p = none) {o : HO} {so : SO} (r : ∀ L' m', Mono H (LL Z m S) m (upd H p o) L' m' → SRep P w K (upd H p o) L' m' p so) : HR P w K Z (m ++ [p]) (S ++ [so]) (upd H p o) := by
  have x := (Ext.push h hp o so).mono (Z := Z)
  have np := h.notin hp
  refine ⟨by simp [h.len], ?_, fun a ha => ?_, fun a ha => ⟨?_, fun z => ?_⟩, fun n u a h1 h2 h3 => ?_⟩
  · rw [List.nodup_append]
    refine ⟨h.nd, by simp, fun a ha b hb => ?_⟩
    rw [List.mem_singleton] at hb
    rw [hb]
    exact fun e => np (e ▸ ha)
  · rcases List.mem_append.mp ha with ha | ha
    · rw [upd_ne (show a ≠ p from fun e => np (e ▸ ha))]; exact h.dom a ha
    · rw [List.mem_singleton] at ha
      rw [ha, upd_same]; exact fun z => nomatch z
  · rw [upd_ne (show a ≠ p from fun e => (h.z a ha).1 (by rw [e]; exact hp))]; exact (h.z a ha).1
  · rcases List.mem_append.mp z with z | z
    · exact (h.z a ha).2 z
    · rw [List.mem_singleton] at z
      exact (h.z a ha).1 (by rw [z]; exact hp)
  · by_cases hi : n < S.length
    · rw [List.getElem?_append_left hi] at h1
      rw [List.getElem?_append_left (by rw [h.len]; exact hi)] at h3
      have hm : a ∈ m := List.mem_of_getElem? h3
      exact (h.obj n u a h1 h2 h3).mono x (upd_ne (show a ≠ p from fun e => np (e ▸ hm)))
    · have e1 : n = S.length := by
        have := (List.getElem?_eq_some_iff.mp h1).1
        simp at this; omega
      subst e1
      rw [List.getElem?_append_right (Nat.le_refl _)] at h1
      simp at h1
      subst h1
      rw [List.getElem?_append_right (by rw [h.len]; exact Nat.le_refl _)] at h3
      have hm : a ∈ [p] := List.mem_of_getElem? h3
      rw [List.mem_singleton] at hm
      rw [hm]
      exact r _ _ x
end
section
variable {X : Cx} {Z : Addr → Prop} {m : List Addr} {S : Store} {H : Hp} {σ : L2.St} {ρ : Env}
theorem HR.refNew {P : Program} {w : World} {K : PySem.W.Frag} {p : Addr} {L : Addr → Prop} {o : HO} (h : HR P w K Z m S H) : Rep P w K (upd H p o) L (m ++ [p]) (.ref S.length) (.ref p) :=
  ⟨p, rfl, by rw [List.getElem?_append_right (by rw [h.len]; exact Nat.le_refl _), h.len]; simp⟩
theorem pe_newL {es : List Expr} {pos : Pos} {g : Env → Store → Out (List D)} {f : Env → Store → Out D} (hs : PA X es (tDs X g)) (hl : ∀ ρ S ds S', g ρ S = some (.ok ds S') → ds.length ≤ 1000)
    (hf : ∀ ρ S, f ρ S = bnd (g ρ S) fun ds S => ok (.ref S.length) (S ++ [.lst ds])) : PE X (.List es pos) (tD X f) :=
  PE.imp (pe_lst hs) fun σ H Q ⟨Z, ρ, m, S, d, S', er, hr, e, k⟩ => by
    rw [hf] at e
    obtain ⟨ds, S1, e1, e⟩ := bnd_ok e
    obtain ⟨rfl, rfl⟩ := ok_ok e
    exact ⟨Z, ρ, m, S, ds, S1, er, hr, e1, fun m1 H1 vs x1 hr1 r1 => ⟨by rw [← r1.length, sizeLine_eq]; have := hl _ _ _ _ e1; omega, fun p hp =>
      k _ _ _ (x1.trans (Ext.push hr1 hp _ _)) (HR.push hr1 hp fun L' m' x => ⟨vs, upd_same, r1.mono x⟩) (HR.refNew hr1)⟩⟩
theorem pe_newT {pos : Pos} {f : Env → Store → Out D} (hf : ∀ ρ S, f ρ S = ok (.ref S.length) (S ++ [.dT [] []])) : PE X (.Dict [] [] pos) (tD X f) := by
  refine ⟨fun pins s σ H Q I ⟨Z, ρ, m, S, d, S', er, hr, e, k⟩ => ?_⟩
  rw [hf] at e
  obtain ⟨rfl, rfl⟩ := ok_ok e
  have hp : H s.heap.objs.size = none := I.hok.fresh (Nat.le_refl _)
  have hb : sysModules < s.heap.objs.size := I.big
  refine wpAny_Dict_empty ?_
  have g : (s.heap.push { cls := .type "dict", data := .dict #[] }).get? s.heap.objs.size = some { cls := .type "dict", data := .dict #[] } := Heap.get?_push_size _ rfl
  refine ⟨.ref s.heap.objs.size, upd H s.heap.objs.size (RawO s.heap.objs.size { cls := .type "dict", data := .dict #[] }), I.laid (t' := s.toks) (fun b u e => Heap.get?_push_of_some _ e) (Nat.le_refl _) ⟨g, ⟨_, g⟩, fun h1 h2 q z => z _ q⟩, rfl, ?_⟩
  refine k _ _ _ (Ext.push hr hp _ _) (HR.push hr hp fun L' m' x => ⟨[], [], ⟨⟨_, #[], 0, upd_same, ⟨rfl, rfl, rfl⟩, rfl, rfl, by simp⟩, ?_, by simp⟩, rfl, rfl, .nil⟩) (HR.refNew hr)
  exact beq_eq_false_iff_ne.mpr (Nat.ne_of_gt hb)
/-! ### operators -/
def R2E (r : (Addr → Prop) → R2) : R2 := fun x y H Q => ∃ Z, r Z x y H Q
theorem OpR.ex {f : Value → Value → Sem Value} {r : (Addr → Prop) → R2} (h : ∀ Z, OpR X f (r Z)) : OpR X f (R2E r) := fun pins s σ H x y v u Q I rx ry ⟨Z, q⟩ => h Z pins s σ H x y v u Q I rx ry q
/-- two expressions, then k -/
theorem tD.two {a b f : Env → Store → Out D} {g : D → D → Store → Out D} {Q : VK} (hf : ∀ ρ S, f ρ S = bnd (a ρ S) fun x S => bnd (b ρ S) fun y S => g x y S) (h : tD X f σ H Q) {R : V → V → Hp → Prop}
    (hg : ∀ Z m S H x y d S' v u, HRX X Z m S H → RP X H (LL Z m S) m x v → RP X H (LL Z m S) m y u → g x y S = some (.ok d S') → KD X Z m S H d S' Q → R v u H) : tD X a σ H fun v H1 => tD X b σ H1 fun u H2 => R v u H2 := by
  obtain ⟨Z, ρ, m, S, d, S', er, hr, e, k⟩ := h
  rw [hf] at e
  obtain ⟨x, S1, e1, e⟩ := bnd_ok e
  obtain ⟨y, S2, e2, e⟩ := bnd_ok e
  exact ⟨Z, ρ, m, S, x, S1, er, hr, e1, fun m1 H1 v x1 hr1 r1 => ⟨Z, ρ, m1, S1, y, S2, er.mono x1.mono, hr1, e2, fun m2 H2 u x2 hr2 r2 =>
    hg Z m2 S2 H2 x y d S' v u hr2 (r1.mono x2.mono) r2 e fun m3 H3 w x3 hr3 r3 => k m3 H3 w (x1.trans (x2.trans x3)) hr3 r3⟩⟩
/-- one, then k -/
theorem tD.one {a f : Env → Store → Out D} {g : D → Store → Out D} {Q : VK} (hf : ∀ ρ S, f ρ S = bnd (a ρ S) fun x S => g x S) (h : tD X f σ H Q) {R : V → Hp → Prop}
    (hg : ∀ Z m S H x d S' v, HRX X Z m S H → RP X H (LL Z m S) m x v → g x S = some (.ok d S') → KD X Z m S H d S' Q → R v H) : tD X a σ H R := by
  obtain ⟨Z, ρ, m, S, d, S', er, hr, e, k⟩ := h
  rw [hf] at e
  obtain ⟨x, S1, e1, e⟩ := bnd_ok e
  exact ⟨Z, ρ, m, S, x, S1, er, hr, e1, fun m1 H1 v x1 hr1 r1 => hg Z m1 S1 H1 x d S' v hr1 r1 e fun m2 H2 w x2 hr2 r2 => k m2 H2 w (x1.trans x2) hr2 r2⟩
variable {ea eb ec : Expr} {a b c f : Env → Store → Out D} {pos : Pos}
theorem pe_binD {op : BO} {o : Operator} (ho : o = bopOf op) (ha : PE X ea (tD X a)) (hb : PE X eb (tD X b)) (hf : ∀ ρ S, f ρ S = bnd (a ρ S) fun x S => bnd (b ρ S) fun y S => lift (binD op x y S) S) : PE X (.BinOp ea o eb pos) (tD X f) := by
  subst ho
  refine PE.imp (pe_op (OpR.ex fun Z => op_binD (Z := Z) op) ha hb) fun σ H Q h => ?_
  refine h.two hf fun Z m S H x y d S' v u hr rv ru e k => ?_
  obtain ⟨e5, rfl⟩ := lift_ok e
  exact ⟨Z, m, S, x, y, d, hr, rv, ru, e5, k⟩
theorem pe_negD (ha : PE X ea (tD X a)) (hf : ∀ ρ S, f ρ S = bnd (a ρ S) fun x S => match x with
    | .int i => ok (.int (-i)) S
    | _ => none) : PE X (.UnaryOp .USub ea pos) (tD X f) := by
  refine PE.imp (pe_un un_neg ha) fun σ H Q h => ?_
  refine h.one hf fun Z m S H x d S' v hr rv e k => ?_
  cases x <;> first | (cases e; done) | skip
  rename_i i
  obtain ⟨rfl, rfl⟩ := ok_ok e
  exact ⟨i, rv, k.here hr (v := .int (-i)) rfl⟩
theorem pe_notD (ha : PE X ea (tD X a)) (hf : ∀ ρ S, f ρ S = bnd (a ρ S) fun x S => match x with
    | .bl i => ok (.bl (!i)) S
    | _ => none) : PE X (.UnaryOp .Not ea pos) (tD X f) := by
  refine PE.imp (pe_not ha) fun σ H Q h => ?_
  refine h.one hf fun Z m S H x d S' v hr rv e k => ?_
  cases x <;> first | (cases e; done) | skip
  rename_i i
  obtain ⟨rfl, rfl⟩ := ok_ok e
  exact ⟨i, rv, k.here hr (v := .bl (!i)) rfl⟩
/-- a value that is used as a test -/
def tTst (X : Cx) (f : Env → Store → Out D) : TT := fun σ H Q => ∃ Z ρ m S d S' b, ER X H (LL Z m S) m σ ρ ∧ HRX X Z m S H ∧ f ρ S = some (.ok d S') ∧ truD d S' = some b ∧ KB X Z m S H S' (Q b)
theorem cmp_bl {op : CO} {x y d : D} {S S' : Store} (e : (match cmpD op x y S with
      | some r => ok (.bl r) S
      | none => none) = some (.ok d S')) : ∃ b, cmpD op x y S = some b ∧ d = .bl b ∧ S' = S := by
  cases q : cmpD op x y S with
  | none => rw [q] at e; cases e
  | some b =>
    rw [q] at e
    obtain ⟨rfl, rfl⟩ := ok_ok e
    exact ⟨b, rfl, rfl, rfl⟩
theorem pe_cmpD {op : CO} {o : CmpOp} (hu : X.A.units + 64 < cLine) (ho : o = copOf op) (hm : behindInMarks o eb = false) (ha : PE X ea (tD X a)) (hb : PE X eb (tD X b))
    (hf : ∀ ρ S, f ρ S = bnd (a ρ S) fun x S => bnd (b ρ S) fun y S => match cmpD op x y S with
      | some r => ok (.bl r) S
      | none => none) : PE X (.Compare ea [o] [eb] pos) (tD X f) ∧ PT X (.Compare ea [o] [eb] pos) (tTst X f) := by
  subst ho
  have key : ∀ (σ : L2.St) (H : Hp) (Q : VK), tD X f σ H Q → tOp (R2E fun Z => RB2 X Z (cmpD op)) (tD X a) (tD X b) σ H Q := fun σ H Q h => by
    refine h.two hf fun Z m S H x y d S' v u hr rv ru e k => ?_
    obtain ⟨b, e5, rfl, rfl⟩ := cmp_bl e
    exact ⟨Z, m, _, x, y, b, hr, rv, ru, e5, k.here hr (v := .bl b) rfl⟩
  refine ⟨PE.imp (pe_cmpR (OpR.ex fun Z => op_cmpD (Z := Z) hu op) ha hb hm) key, PT.imp (pt_cmpR (OpR.ex fun Z => op_cmpD (Z := Z) hu op) ha hb hm) fun σ H Q ⟨Z, ρ, m, S, d, S', b, er, hr, e, t, k⟩ => ?_⟩
  refine key σ H _ ⟨Z, ρ, m, S, d, S', er, hr, e, fun m1 H1 v x1 hr1 r1 => ?_⟩
  have : ∃ b', d = .bl b' := by
    rw [hf] at e
    obtain ⟨x, S1, e1, e⟩ := bnd_ok e
    obtain ⟨y, S2, e2, e⟩ := bnd_ok e
    obtain ⟨b5, e5, e6, _⟩ := cmp_bl e
    exact ⟨b5, e6⟩
  obtain ⟨b6, e6⟩ := this
  subst e6
  cases (show some b6 = some b from t)
  exact ⟨_, r1, k m1 H1 x1 hr1⟩
theorem pe_chainD {op op' : CO} {o o' : CmpOp} (hu : X.A.units + 64 < cLine) (ho : o = copOf op) (ho' : o' = copOf op') (hm : lastMarks [o, o'] [eb, ec] = false) (ha : PE X ea (tD X a)) (hb : PE X eb (tD X b)) (hc : PE X ec (tD X c))
    (hf : ∀ ρ S, f ρ S = bnd (a ρ S) fun x S => bnd (b ρ S) fun y S => match cmpD op x y S with
    | some true => bnd (c ρ S) fun z S => match cmpD op' y z S with
      | some r => ok (.bl r) S
      | none => none
    | some false => ok (.bl false) S
    | none => none) : PE X (.Compare ea [o, o'] [eb, ec] pos) (tD X f) ∧ PT X (.Compare ea [o, o'] [eb, ec] pos) (tTst X f) := by
  subst ho ho'
  have key : ∀ (σ : L2.St) (H : Hp) (Q : VK), (tD X f σ H fun v H' => ∀ b : Bool, v = .bl b → Q v H') → tChain (R2E fun Z => RB2 X Z (cmpD op)) (R2E fun Z => RB2 X Z (cmpD op')) (tD X a) (tD X b) (tD X c) σ H Q := fun σ H Q h => by
    obtain ⟨Z, ρ, m, S, d, S', er, hr, e, k⟩ := h
    rw [hf] at e
    obtain ⟨x, S1, e1, e⟩ := bnd_ok e
    obtain ⟨y, S2, e2, e⟩ := bnd_ok e
    refine ⟨Z, ρ, m, S, x, S1, er, hr, e1, fun m1 H1 v x1 hr1 r1 => ⟨Z, ρ, m1, S1, y, S2, er.mono x1.mono, hr1, e2, fun m2 H2 u x2 hr2 r2 => ?_⟩⟩
    cases q : cmpD op x y S2 with
    | none => rw [q] at e; cases e
    | some t =>
      rw [q] at e
      refine ⟨Z, m2, S2, x, y, t, hr2, r1.mono x2.mono, r2, q, t, rfl, ?_⟩
      cases t with
      | false =>
        obtain ⟨rfl, rfl⟩ := ok_ok e
        rw [if_neg Bool.false_ne_true]
        exact k m2 H2 (.bl false) (x1.trans x2) hr2 rfl false rfl
      | true =>
        rw [if_pos rfl]
        obtain ⟨z, S3, e3, e⟩ := bnd_ok e
        obtain ⟨t, e5, rfl, rfl⟩ := cmp_bl e
        exact ⟨Z, ρ, m2, S2, z, _, (er.mono x1.mono).mono x2.mono, hr2, e3, fun m3 H3 w x3 hr3 r3 => ⟨Z, m3, _, y, z, t, hr3, r2.mono x3.mono, r3, e5, k m3 H3 (.bl t) (x1.trans (x2.trans x3)) hr3 rfl t rfl⟩⟩
  refine ⟨PE.imp (pe_chain (OpR.ex fun Z => op_cmpD (Z := Z) hu op) (OpR.ex fun Z => op_cmpD (Z := Z) hu op') ha hb hc hm) fun σ H Q ⟨Z, ρ, m, S, d, S', er, hr, e, k⟩ =>
    key σ H Q ⟨Z, ρ, m, S, d, S', er, hr, e, fun m1 H1 v x1 hr1 r1 b _ => k m1 H1 v x1 hr1 r1⟩,
    PT.imp (pt_chain (OpR.ex fun Z => op_cmpD (Z := Z) hu op) (OpR.ex fun Z => op_cmpD (Z := Z) hu op') ha hb hc hm) fun σ H Q ⟨Z, ρ, m, S, d, S', b, er, hr, e, t, k⟩ => ?_⟩
  refine key σ H _ ⟨Z, ρ, m, S, d, S', er, hr, e, fun m1 H1 v x1 hr1 r1 b' hb' => ?_⟩
  subst hb'
  refine ⟨b', rfl, ?_⟩
  have e3 : d = .bl b' := by
    cases d <;> first
      | (have r1 : _ = _ := r1
         cases r1; done)
      | (have r1 : _ = _ := r1
         cases r1; rfl)
      | (obtain ⟨_, _, e9, _⟩ := r1; cases e9; done)
      | (obtain ⟨_, e9, _⟩ := r1; cases e9; done)
      | (obtain ⟨_, _, _, e9, _⟩ := r1; cases e9; done)
  subst e3
  cases (show some b' = some b from t)
  exact k m1 H1 x1 hr1
/-- a test that is a value's truth -/
def plainTest : Expr → Bool
  | .UnaryOp .Not _ _ => false
  | .BoolOp _ _ _ => false
  | .IfExp _ _ _ _ => false
  | .Compare _ _ _ _ => false
  | _ => true
theorem plain_isTrue {e : Expr} {env : PySem.Env} (h : plainTest e = true) (whole : Sem Value) : isTrue e env whole = (do let v ← whole; standAt e.pos; holding [v] (truthy v)) := by
  cases e <;> first | rfl | (cases h; done) | skip
  rename_i o x p
  cases o <;> first | rfl | (cases h; done)
def RTE (X : Cx) : V → Hp → (Bool → Hp → Prop) → Prop := fun x H Q => ∃ Z m S d b, HRX X Z m S H ∧ RP X H (LL Z m S) m d x ∧ truD d S = some b ∧ Q b H
theorem pt_D (hp : plainTest ea = true) (ha : PE X ea (tD X a)) : PT X ea (tTst X a) := by
  refine PT.imp (pt_truthR ha (r := RTE X) (fun pins s σ H x v Q I rx ⟨Z, q⟩ => tru_run (Z := Z) pins s σ H x v Q I rx q) (plain_isTrue hp)) fun σ H Q ⟨Z, ρ, m, S, d, S', b, er, hr, e, t, k⟩ => ?_
  exact ⟨Z, ρ, m, S, d, S', er, hr, e, fun m1 H1 v x1 hr1 r1 => ⟨Z, m1, S', d, b, hr1, r1, t, k m1 H1 x1 hr1⟩⟩
theorem pt_val' {g : Env → Store → Out Bool} (hg : ∀ ρ S, g ρ S = bnd (a ρ S) fun d S => lift (truD d S) S) (h : PT X ea (tTst X a)) : PT X ea (tQ X g) := by
  refine PT.imp h fun σ H Q ⟨Z, ρ, m, S, b, S', er, hr, e, k⟩ => ?_
  rw [hg] at e
  obtain ⟨d, S1, e1, e⟩ := bnd_ok e
  obtain ⟨e5, rfl⟩ := lift_ok e
  exact ⟨Z, ρ, m, S, d, _, b, er, hr, e1, e5, k⟩
/-! ### tests -/
variable {q r t : Env → Store → Out Bool} {rest : List Expr}
theorem tQ.seq {Q : Bool → Hp → Prop} {g : Bool → Env → Store → Out Bool} (hf : ∀ ρ S, t ρ S = bnd (q ρ S) fun b S => g b ρ S) (h : tQ X t σ H Q) : tQ X q σ H fun b H1 => tQ X (g b) σ H1 Q := by
  obtain ⟨Z, ρ, m, S, b, S', er, hr, e, k⟩ := h
  rw [hf] at e
  obtain ⟨x, S1, e1, e⟩ := bnd_ok e
  exact ⟨Z, ρ, m, S, x, S1, er, hr, e1, fun m1 H1 x1 hr1 => ⟨Z, ρ, m1, S1, b, S', er.mono x1.mono, hr1, e, fun m2 H2 x2 hr2 => k m2 H2 (x1.trans x2) hr2⟩⟩
theorem tQ.ok {b : Bool} {Q : Bool → Hp → Prop} (h : tQ X (fun _ S => ok b S) σ H Q) : Q b H := by
  obtain ⟨Z, ρ, m, S, b', S', er, hr, e, k⟩ := h
  obtain ⟨rfl, rfl⟩ := ok_ok e
  exact k m H Ext.refl hr
theorem pw_and1D (ha : PT X ea (tQ X q)) (hf : ∀ ρ S, t ρ S = bnd (q ρ S) fun b S => if b then ok true S else ok false S) : PW X (.BoolOp .And [ea] pos) (tQ X t) :=
  PW.imp (pw_and1 ha) fun σ H Q h => by
    obtain ⟨Z, ρ, m, S, b, S', er, hr, e, k⟩ := h
    rw [hf] at e
    obtain ⟨x, S1, e1, e⟩ := bnd_ok e
    have e2 : x = b ∧ S1 = S' := by cases x <;> exact ok_ok e
    obtain ⟨rfl, rfl⟩ := e2
    exact ⟨Z, ρ, m, S, x, S1, er, hr, e1, k⟩
theorem pw_or1D (ha : PT X ea (tQ X q)) (hf : ∀ ρ S, t ρ S = bnd (q ρ S) fun b S => if b then ok true S else ok false S) : PW X (.BoolOp .Or [ea] pos) (tQ X t) :=
  PW.imp (pw_or1 ha) fun σ H Q h => by
    obtain ⟨Z, ρ, m, S, b, S', er, hr, e, k⟩ := h
    rw [hf] at e
    obtain ⟨x, S1, e1, e⟩ := bnd_ok e
    have e2 : x = b ∧ S1 = S' := by cases x <;> exact ok_ok e
    obtain ⟨rfl, rfl⟩ := e2
    exact ⟨Z, ρ, m, S, x, S1, er, hr, e1, k⟩
theorem pw_andD (ha : PT X ea (tQ X q)) (hb : PW X (.BoolOp .And (eb :: rest) pos) (tQ X r)) (hf : ∀ ρ S, t ρ S = bnd (q ρ S) fun b S => if b then r ρ S else ok false S) : PW X (.BoolOp .And (ea :: eb :: rest) pos) (tQ X t) :=
  PW.imp (pw_and ha hb) fun σ H Q h => by
    obtain ⟨Z, ρ, m, S, b, S', er, hr, e, k⟩ := tQ.seq (g := fun b ρ S => if b then r ρ S else ok false S) hf h
    refine ⟨Z, ρ, m, S, b, S', er, hr, e, fun m1 H1 x1 hr1 => ?_⟩
    have := k m1 H1 x1 hr1
    cases b with
    | true => exact this
    | false => exact (show tQ X (fun _ S => ok false S) σ H1 Q from this).ok
theorem pw_orD (ha : PT X ea (tQ X q)) (hb : PW X (.BoolOp .Or (eb :: rest) pos) (tQ X r)) (hf : ∀ ρ S, t ρ S = bnd (q ρ S) fun b S => if b then ok true S else r ρ S) : PW X (.BoolOp .Or (ea :: eb :: rest) pos) (tQ X t) :=
  PW.imp (pw_or ha hb) fun σ H Q h => by
    obtain ⟨Z, ρ, m, S, b, S', er, hr, e, k⟩ := tQ.seq (g := fun b ρ S => if b then ok true S else r ρ S) hf h
    refine ⟨Z, ρ, m, S, b, S', er, hr, e, fun m1 H1 x1 hr1 => ?_⟩
    have := k m1 H1 x1 hr1
    cases b with
    | true => exact (show tQ X (fun _ S => ok true S) σ H1 Q from this).ok
    | false => exact this
theorem pt_notD (ha : PT X ea (tQ X q)) (hf : ∀ ρ S, t ρ S = bnd (q ρ S) fun b S => ok (!b) S) : PT X (.UnaryOp .Not ea pos) (tQ X t) :=
  PT.imp (pt_not ha) fun σ H Q h => by
    obtain ⟨Z, ρ, m, S, b, S', er, hr, e, k⟩ := tQ.seq (g := fun b ρ S => ok (!b) S) hf h
    exact ⟨Z, ρ, m, S, b, S', er, hr, e, fun m1 H1 x1 hr1 => (k m1 H1 x1 hr1).ok⟩
/-! ### and, or as values -/
theorem pe_andD (ha : PE X ea (tD X a)) (hb : PE X (.BoolOp .And (eb :: rest) pos) (tD X b)) (hf : ∀ ρ S, f ρ S = bnd (a ρ S) fun d S => match d with
    | .bl true => b ρ S
    | .bl false => ok (.bl false) S
    | _ => none) : PE X (.BoolOp .And (ea :: eb :: rest) pos) (tD X f) :=
  PE.imp (pe_and ha hb) fun σ H Q h => by
    obtain ⟨Z, ρ, m, S, d, S', er, hr, e, k⟩ := h
    rw [hf] at e
    obtain ⟨x, S1, e1, e⟩ := bnd_ok e
    refine ⟨Z, ρ, m, S, x, S1, er, hr, e1, fun m1 H1 v x1 hr1 r1 => ?_⟩
    cases x <;> first | (cases e; done) | skip
    rename_i t
    refine ⟨t, r1, ?_⟩
    cases t with
    | true => exact ⟨Z, ρ, m1, S1, d, S', er.mono x1.mono, hr1, e, fun m2 H2 w x2 hr2 r2 => k m2 H2 w (x1.trans x2) hr2 r2⟩
    | false =>
      rw [if_neg Bool.false_ne_true]
      obtain ⟨rfl, rfl⟩ := ok_ok e
      exact k m1 H1 (.bl false) x1 hr1 rfl
theorem pe_orD (ha : PE X ea (tD X a)) (hb : PE X (.BoolOp .Or (eb :: rest) pos) (tD X b)) (hf : ∀ ρ S, f ρ S = bnd (a ρ S) fun d S => match d with
    | .bl true => ok (.bl true) S
    | .bl false => b ρ S
    | _ => none) : PE X (.BoolOp .Or (ea :: eb :: rest) pos) (tD X f) :=
  PE.imp (pe_or ha hb) fun σ H Q h => by
    obtain ⟨Z, ρ, m, S, d, S', er, hr, e, k⟩ := h
    rw [hf] at e
    obtain ⟨x, S1, e1, e⟩ := bnd_ok e
    refine ⟨Z, ρ, m, S, x, S1, er, hr, e1, fun m1 H1 v x1 hr1 r1 => ?_⟩
    cases x <;> first | (cases e; done) | skip
    rename_i t
    refine ⟨t, r1, ?_⟩
    cases t with
    | false => exact ⟨Z, ρ, m1, S1, d, S', er.mono x1.mono, hr1, e, fun m2 H2 w x2 hr2 r2 => k m2 H2 w (x1.trans x2) hr2 r2⟩
    | true =>
      rw [if_pos rfl]
      obtain ⟨rfl, rfl⟩ := ok_ok e
      exact k m1 H1 (.bl true) x1 hr1 rfl
/-! ### if-expressions, subscripts, slices -/
theorem pe_ifD (hq : PT X ec (tQ X q)) (ha : PE X ea (tD X a)) (hb : PE X eb (tD X b)) (hf : ∀ ρ S, f ρ S = bnd (q ρ S) fun t S => if t then a ρ S else b ρ S) : PE X (.IfExp ec ea eb pos) (tD X f) :=
  PE.imp (pe_ifExp hq ha hb) fun σ H Q h => by
    obtain ⟨Z, ρ, m, S, d, S', er, hr, e, k⟩ := h
    rw [hf] at e
    obtain ⟨t, S1, e1, e⟩ := bnd_ok e
    refine ⟨Z, ρ, m, S, t, S1, er, hr, e1, fun m1 H1 x1 hr1 => ?_⟩
    cases t with
    | true => exact ⟨Z, ρ, m1, S1, d, S', er.mono x1.mono, hr1, e, fun m2 H2 w x2 hr2 r2 => k m2 H2 w (x1.trans x2) hr2 r2⟩
    | false => exact ⟨Z, ρ, m1, S1, d, S', er.mono x1.mono, hr1, e, fun m2 H2 w x2 hr2 r2 => k m2 H2 w (x1.trans x2) hr2 r2⟩
theorem IxR.ex {r : (Addr → Prop) → R2} (h : ∀ Z, IxR X (r Z)) : IxR X (R2E r) := fun va sl pins s σ H x y v u Q I rx ry ⟨Z, q⟩ hs => h Z va sl pins s σ H x y v u Q I rx ry q hs
def notSlice : Expr → Bool
  | .Slice _ _ _ _ => false
  | _ => true
theorem plainIx {e : Expr} (h : notSlice e = true) : PlainIx e := by
  intro o i
  cases e <;> first | rfl | cases h
theorem pe_ixD (hu : X.A.units + 64 < cLine) (hn : notSlice eb = true) (ha : PE X ea (tD X a)) (hb : PE X eb (tD X b)) (hf : ∀ ρ S, f ρ S = bnd (a ρ S) fun x S => bnd (b ρ S) fun y S => lift (idxD x y S) S) : PE X (.Subscript ea eb pos) (tD X f) :=
  PE.imp (pe_ix (IxR.ex fun Z => ix_D (Z := Z) hu) ha hb (plainIx hn)) fun σ H Q h => by
    refine h.two hf fun Z m S H x y d S' v u hr rv ru e k => ?_
    obtain ⟨e5, rfl⟩ := lift_ok e
    exact ⟨Z, m, S, x, y, d, hr, rv, ru, e5, k⟩
theorem po_noneD {g : Env → Store → Out (Option Int)} (hg : ∀ ρ S, g ρ S = ok none S) : PO X none (tOI X g) :=
  PO.imp po_none fun σ H Q ⟨Z, ρ, m, S, b, S', er, hr, e, k⟩ => by
    rw [hg] at e
    obtain ⟨rfl, rfl⟩ := ok_ok e
    exact k m H Ext.refl hr
theorem po_someD {g : Env → Store → Out (Option Int)} (ha : PE X ea (tD X a)) (hg : ∀ ρ S, g ρ S = bnd (a ρ S) fun d S => match d with
    | .int i => ok (some i) S
    | _ => none) : PO X (some ea) (tOI X g) :=
  PO.imp (po_some ha) fun σ H Q ⟨Z, ρ, m, S, b, S', er, hr, e, k⟩ => by
    rw [hg] at e
    obtain ⟨x, S1, e1, e⟩ := bnd_ok e
    refine ⟨Z, ρ, m, S, x, S1, er, hr, e1, fun m1 H1 v x1 hr1 r1 => ?_⟩
    cases x <;> first | (cases e; done) | skip
    rename_i i
    obtain ⟨rfl, rfl⟩ := ok_ok e
    exact ⟨i, r1, k m1 H1 x1 hr1⟩
def RSlE (X : Cx) : V → Option Int → Option Int → Hp → VK → Prop := fun x lo hi H Q => ∃ Z, RSl X Z x lo hi H Q
theorem sl_E : SlR X (RSlE X) := fun pins s σ H x v vl vu lo hi sl Q I rx hs pl pu ⟨Z, h⟩ => sl_D (Z := Z) pins s σ H x v vl vu lo hi sl Q I rx hs pl pu h
theorem pe_slD {lo hi : Option Expr} {g g' : Env → Store → Out (Option Int)} {p2 : Pos} (ha : PE X ea (tD X a)) (hl : PO X lo (tOI X g)) (hh : PO X hi (tOI X g'))
    (hf : ∀ ρ S, f ρ S = bnd (a ρ S) fun x S => bnd (g ρ S) fun l S => bnd (g' ρ S) fun h S => lift (cutD x l h S) S) : PE X (.Subscript ea (.Slice lo hi none p2) pos) (tD X f) :=
  PE.imp (pe_slice sl_E ha hl hh) fun σ H Q h => by
    obtain ⟨Z, ρ, m, S, d, S', er, hr, e, k⟩ := h
    rw [hf] at e
    obtain ⟨x, S1, e1, e⟩ := bnd_ok e
    obtain ⟨l, S2, e2, e⟩ := bnd_ok e
    obtain ⟨h, S3, e3, e⟩ := bnd_ok e
    obtain ⟨e5, rfl⟩ := lift_ok e
    exact ⟨Z, ρ, m, S, x, S1, er, hr, e1, fun m1 H1 v x1 hr1 r1 => ⟨Z, ρ, m1, S1, l, S2, er.mono x1.mono, hr1, e2, fun m2 H2 x2 hr2 => ⟨Z, ρ, m2, S2, h, _, (er.mono x1.mono).mono x2.mono, hr2, e3, fun m3 H3 x3 hr3 =>
      ⟨Z, m3, _, x, d, hr3, (r1.mono x2.mono).mono x3.mono, e5, fun m4 H4 w x4 hr4 r4 => k m4 H4 w (x1.trans (x2.trans (x3.trans x4))) hr4 r4⟩⟩⟩⟩
/-! ### built-in functions -/
def RCE (X : Cx) (f : List D → Store → Option D) : List V → Hp → VK → Prop := fun xs H Q => ∃ Z, RC X Z f xs H Q
theorem CallR.ex {v : Value} {g : List D → Store → Option D} (h : ∀ Z, CallR X v (RC X Z g)) : CallR X v (RCE X g) := fun pins s σ H xs us Q I r ⟨Z, q⟩ => h Z pins s σ H xs us Q I r q
theorem tDs.call {g : Env → Store → Out (List D)} {h : List D → Store → Option D} {Q : VK} (hf : ∀ ρ S, f ρ S = bnd (g ρ S) fun ds S => lift (h ds S) S) (q : tD X f σ H Q) : tCB (RCE X h) (tDs X g) σ H Q := by
  obtain ⟨Z, ρ, m, S, d, S', er, hr, e, k⟩ := q
  rw [hf] at e
  obtain ⟨ds, S1, e1, e⟩ := bnd_ok e
  obtain ⟨e5, rfl⟩ := lift_ok e
  exact ⟨Z, ρ, m, S, ds, _, er, hr, e1, fun m1 H1 vs x1 hr1 r1 => ⟨Z, m1, _, ds, d, hr1, r1, e5, fun m2 H2 w x2 hr2 r2 => k m2 H2 w (x1.trans x2) hr2 r2⟩⟩
theorem pe_bltD {x : Str} {p : Pos} {id : String} {g : Env → Store → Out (List D)} {h : List D → Store → Option D} {es : List Expr} (hc : ∀ Z, CallR X (.builtin id) (RC X Z h)) (hg : Gl X x) (hm : X.mg x = none) (hv : bootBuiltins x = some (.builtin id)) (hn : x ≠ "__name__") (hdb : (x == ("__debug__" : Str)) = false)
    (ha : PA X (ea :: es) (tDs X g)) (hs : noStars (ea :: es) = true) (hf : ∀ ρ S, f ρ S = bnd (g ρ S) fun ds S => lift (h ds S) S) : PE X (.Call (.Name x p) (ea :: es) [] pos) (tD X f) := by
  have h' : (notStar ea && es.all notStar) = true := hs
  rw [Bool.and_eq_true] at h'
  exact PE.imp (pe_callB (CallR.ex hc) hg hm hv ha hn hdb (star_cons h'.1) (back_plain h'.2).1) fun σ H Q q => tDs.call hf q
theorem pe_tyD {x : Str} {p : Pos} {id : String} {g : Env → Store → Out (List D)} {h : List D → Store → Option D} {es : List Expr} (hc : ∀ Z, CallR X (.type id) (RC X Z h)) (hg : Gl X x) (hm : X.mg x = none) (hv : bootBuiltins x = some (.type id)) (hn : x ≠ "__name__") (hdb : (x == ("__debug__" : Str)) = false)
    (ha : PA X (ea :: es) (tDs X g)) (hs : noStars (ea :: es) = true) (hf : ∀ ρ S, f ρ S = bnd (g ρ S) fun ds S => lift (h ds S) S) : PE X (.Call (.Name x p) (ea :: es) [] pos) (tD X f) := by
  have h' : (notStar ea && es.all notStar) = true := hs
  rw [Bool.and_eq_true] at h'
  exact PE.imp (pe_callTy (CallR.ex hc) hg hm hv ha hn hdb (star_cons h'.1) (back_plain h'.2).1) fun σ H Q q => tDs.call hf q
/-! ### one's own functions -/
/-- what a def promises, by data -/
def spK (P : Program) (w : World) (K : PySem.W.Frag) (C : CallF) (n : Nat) (f : Nat) : Sp := fun vs H Q _ => vs.length = n ∧ ∃ Z m S ds r S', HR P w K Z m S H ∧ Reps P w K H (LL Z m S) m ds vs ∧ C f ds S = some (.ok r S') ∧
  ∀ m' H' v, Ext m S H m' S' H' → HR P w K Z m' S' H' → Rep P w K H' (LL Z m' S') m' r v → Q v H'
theorem tDs.own {C : CallF} {n j : Nat} {g : Env → Store → Out (List D)} {Q : VK} (hn : ∀ ρ S ds S', g ρ S = some (.ok ds S') → ds.length = n) (hf : ∀ ρ S, f ρ S = bnd (g ρ S) fun ds S => C j ds S) (q : tD X f σ H Q) :
    tCall (spK X.prog X.w X.K C n j) [] E0 (tDs X g) σ H Q := by
  obtain ⟨Z, ρ, m, S, d, S', er, hr, e, k⟩ := q
  rw [hf] at e
  obtain ⟨ds, S1, e1, e⟩ := bnd_ok e
  refine ⟨Z, ρ, m, S, ds, S1, er, hr, e1, fun m1 H1 vs x1 hr1 r1 => ?_⟩
  show spK X.prog X.w X.K C n j (vs ++ []) H1 Q E0
  rw [List.append_nil]
  exact ⟨by rw [← r1.length]; exact hn _ _ _ _ e1, Z, m1, S1, ds, d, S', hr1, r1, e, fun m2 H2 w x2 hr2 r2 => k m2 H2 w (x1.trans x2) hr2 r2⟩
theorem pe_ownD {x : Str} {p : Pos} {C : CallF} {k n j : Nat} {fa : Addr} {fd : FuncData} {ps : List Str} {g : Env → Store → Out (List D)} {es : List Expr} (F : FnOk X.prog X.w X.K X.mg X.base CX0 k fa fd ps (spK X.prog X.w X.K C n j)) (hr : Room k X.A) (hg : Gl X x) (hm : X.mg x = some (.ref fa))
    (hk : PySem.W.keepIn X.K (.ref fa) = true) (hb : Binds X.K fd ps []) (hdb : (x == ("__debug__" : Str)) = false) (ha : PA X (ea :: es) (tDs X g)) (hs : noStars (ea :: es) = true) (hn : ∀ ρ S ds S', g ρ S = some (.ok ds S') → ds.length = n)
    (hf : ∀ ρ S, f ρ S = bnd (g ρ S) fun ds S => C j ds S) : PE X (.Call (.Name x p) (ea :: es) [] pos) (tD X f) := by
  have h' : (notStar ea && es.all notStar) = true := hs
  rw [Bool.and_eq_true] at h'
  exact PE.imp (pe_call F hr hg hm hk hb .nil pass0 ha hdb (star_cons h'.1) (back_plain h'.2).1) fun σ H Q q => tDs.own hn hf q
theorem pe_own0D {x : Str} {p : Pos} {C : CallF} {k n j : Nat} {fa : Addr} {fd : FuncData} {ps : List Str} {g : Env → Store → Out (List D)} (F : FnOk X.prog X.w X.K X.mg X.base CX0 k fa fd ps (spK X.prog X.w X.K C n j)) (hr : Room k X.A) (hg : Gl X x) (hm : X.mg x = some (.ref fa))
    (hk : PySem.W.keepIn X.K (.ref fa) = true) (hb : Binds X.K fd ps []) (hdb : (x == ("__debug__" : Str)) = false) (hg0 : ∀ ρ S, g ρ S = ok [] S) (hn : ∀ ρ S ds S', g ρ S = some (.ok ds S') → ds.length = n)
    (hf : ∀ ρ S, f ρ S = bnd (g ρ S) fun ds S => C j ds S) : PE X (.Call (.Name x p) [] [] pos) (tD X f) :=
  PE.imp (pe_call0 F hr hg hm hk hb .nil pass0 hdb) fun σ H Q q => by
    obtain ⟨Z, ρ, m, S, ds, S', er, hr, e, k⟩ := tDs.own (g := g) hn hf q
    rw [hg0] at e
    obtain ⟨rfl, rfl⟩ := ok_ok e
    exact k m H [] Ext.refl hr rfl
end
end KL
end
section
set_option Elab.async false
set_option linter.all false
set_option maxRecDepth 100000
set_option maxHeartbeats 4000000
set_option autoImplicit false
/-! KLEnum: enumerate over a tuple. -/
namespace KL
open PySem PySem.Spec PyProof.Rows L2
open AutoSeq1 (wpAny_loadPart')
abbrev tupIt (l : Addr) : Obj := { cls := .type "tuple_iterator", data := .fields #[.ref l, .int 0 0] }
abbrev enObj (a : Addr) : Obj := { cls := .type "enumerate", data := .fields #[.none, .bool false, .ref a, rawInt 0, .none, .none] }
theorem enum_newT (t : Addr) (xs : Array Value) (k : Nat) (dd : Option Addr) (sl : Array (Option Value)) :
    Meets (Builtin.«enumerate.__new__» ⟨[.type "enumerate", .ref t], []⟩) (fun _ R s => s.heap.get? t = some { cls := .type "tuple", dict := dd, data := .seq xs k, slots := sl } ∧
      R (.ok (.ret (.ref (s.heap.push (tupIt t)).objs.size))) { s with heap := (s.heap.push (tupIt t)).push (enObj s.heap.objs.size) }) :=
  .of_wp fun P w A R s q => by
    obtain ⟨hp, gs, dr, tk, os⟩ := s
    obtain ⟨q1, q2⟩ := q
    have sub := sub_enumerate
    have q3 : Heap.IsTuple (Shared.heap ⟨hp, gs, dr, tk, os⟩) t xs := ⟨_, q1, rfl, k, rfl⟩
    wp_walk using wpAny_loadPart' q1
    refine wpAny_stack_any fun _ => wpAny_pure ?_
    split
    · rename_i c _ _ _ _ _
      cases (c == Value.type "enumerate") <;> (wp_walk using wpAny_loadPart' q1, wpAny_pyIter_tuple q3; exact ⟨_, rfl, q2⟩)
    · wp_walk using wpAny_loadPart' q1, wpAny_pyIter_tuple q3
      exact ⟨_, rfl, q2⟩
section
variable {P : Program} {w : World} {A : Around} {E : Value → Shared → Prop} {s : Shared}
theorem call_enumT {t : Addr} {xs : Array Value} {Q : Value → Shared → Prop} (ht : s.heap.IsTuple t xs)
    (q : ∀ h', IsEnum h' (s.heap.objs.size + 1) s.heap.objs.size 0 .none → h'.IsTupleIter s.heap.objs.size t 0 → (∀ b o, s.heap.get? b = some o → h'.get? b = some o) → Q (.ref (s.heap.objs.size + 1)) { s with heap := h' }) :
    wpAny (model P w) A (call (.type "enumerate") [.ref t]) Q E s := by
  obtain ⟨⟨c, dd, dt, sl⟩, h1, h2, k, h3⟩ := ht
  obtain rfl : c = .type "tuple" := h2
  obtain rfl : dt = .seq xs k := h3
  refine callType_new F.called_enumerate (by decide) (F.typeCall_enumerate_1 _) (F.newCall_enumerate_1 _) (fun o => F.args_object_init_2 o _) F.entry_enumerate_new (enum_newT t xs k dd sl) ⟨h1, ?_⟩
  have sz : (s.heap.push (tupIt t)).objs.size = s.heap.objs.size + 1 := Heap.size_push ..
  show _ ∧ _
  rw [sz]
  have g := Heap.get?_push_size (s.heap.push (tupIt t)) (o := enObj s.heap.objs.size) rfl
  rw [sz] at g
  exact ⟨⟨_, g, rfl⟩, q _ g ⟨_, Heap.get?_push_of_some _ (Heap.get?_push_size _ rfl), rfl, rfl⟩ fun b o z => Heap.get?_push_of_some _ (Heap.get?_push_of_some _ z)⟩
/-- a tuple's iterator as a source -/
theorem draws_tup (hh : A.handled = none) {it t : Addr} (ne : t ≠ it) (xs : Array Value) : Draws P w A it [it, t] xs.size (fun i v => xs[i]? = some v) (fun i h => h.IsTupleIter it t i ∧ h.IsTuple t xs) where
  live := fun i h st => let ⟨o, e, _⟩ := st.1; ⟨o, e⟩
  frame := fun i h h' st k => ⟨st.1.at fun o e => k it (by simp) o e, let ⟨o, e, r⟩ := st.2; ⟨o, k t (by simp) o e, r⟩⟩
  item := fun i s Q E hi st q => by
    obtain ⟨x, hx⟩ : ∃ x, xs[i]? = some x := ⟨xs[i], Array.getElem?_eq_getElem hi⟩
    refine RZ.nextOf_tuple_item st.1 st.2 hx fun h' st' sb => q x h' s.toks hx ⟨st', ?_⟩ sb
    obtain ⟨o, e, r⟩ := st.2
    exact ⟨o, (sb.2 t ne).trans e, r⟩
  done := fun s Q E st q => RZ.nextOf_tuple_end hh st.1 st.2 (Array.getElem?_eq_none (Nat.le_refl _)) q
end
/-- the tuple at a, each item in a new pair -/
def IteT (K : PySem.W.Frag) (a : Addr) (xs : List V) : It :=
  ⟨fun i H => SqT K H a xs ∧ i < xs.length, fun i H v H' => ∃ T x, v = .ref T ∧ H T = none ∧ H' = upd H T (.tup [.int (i : Nat), x]) ∧ xs[i]? = some x, fun i H => SqT K H a xs ∧ i = xs.length⟩
theorem turn_enumT {P : Program} {w : World} {K : PySem.W.Frag} {elts : List Expr} {kk : Nat} {tpos : Pos} {a e it : Addr} {xs : List V} (hae : a ≠ e) (hai : a ≠ it) :
    Turn P w K (.Tuple elts kk tpos) (IteT K a xs) [e, it] e (fun i h => (∃ old, IsEnum h e it ((i : Nat) : Int) old) ∧ h.IsTupleIter it a i ∧ e ≠ it) where
  mem := by simp
  obj := fun i h st b hb => by
    obtain ⟨⟨old, he⟩, ⟨o, ho, hc, hd⟩, _⟩ := st
    rcases List.mem_cons.mp hb with z | z
    · rw [z]; exact ⟨_, he, fun v q => nomatch q⟩
    · rw [List.mem_singleton.mp z]; exact ⟨o, ho, fun v q => by rw [hd] at q; cases q⟩
  keep := fun i h h' st k => let ⟨⟨old, he⟩, hi, hne⟩ := st; ⟨⟨old, k e (by simp) _ he⟩, hi.at fun o q => k it (by simp) o q, hne⟩
  item := by
    intro X hP hw hK hc i pins s σ H E I hf st hg
    subst hP hw hK
    obtain ⟨⟨old, he⟩, hit, hne⟩ := st
    obtain ⟨hq, hi⟩ := hg
    obtain ⟨its, rv, p, hz⟩ := I.tuple hq
    have hel : e < s.heap.objs.size := Heap.lt_size he
    have hil : it < s.heap.objs.size := by obtain ⟨_, q, _⟩ := hit; exact Heap.lt_size q
    have hl := rv.length
    have hh : X.A.in1.handled = none := I.ok.hd hc
    refine wpAny_pyNext_enum_itemD (draws_tup hh hai its.toArray) he ⟨hit, p⟩ (by simp; omega) hne (by simp [hne, Ne.symm hae]) fun u h' tk hx ho st' hT hsz hk => ?_
    obtain ⟨x, ex⟩ : ∃ x, xs[i]? = some x := ⟨xs[i], List.getElem?_eq_getElem hi⟩
    obtain ⟨u', eu, ru⟩ := rv.get ex
    have eu2 : u' = u := by
      have : its[i]? = some u := by simpa using hx
      rw [eu] at this; exact Option.some.inj this
    subst eu2
    refine ⟨_, rfl, wpAny_letOwnedTupleGo_enum (s := { s with heap := h', toks := tk + 1 }) ho fun h'' he' sb => ?_⟩
    have hT2 : h''.get? s.heap.objs.size = some { cls := .type "tuple", data := .seq #[.int i tk, u'] } := (sb.2 _ (Nat.ne_of_gt hel)).trans hT
    have new : ObjOk X.prog X.w (upd H s.heap.objs.size (.tup [.int (i : Nat), x])) h'' s.heap.objs.size (.tup [.int (i : Nat), x]) :=
      ⟨by show 2 ≤ sizeLine; decide, [.int i tk, u'], .cons ⟨_, rfl⟩ (.cons ru .nil), ⟨_, hT2, rfl, _, rfl⟩⟩
    have I1 : Inv X pins σ (upd H s.heap.objs.size (.tup [.int (i : Nat), x])) { s with heap := h'', toks := tk + 1 } :=
      I.turnedNew (ch := [e, it]) (fun b ob hb q => (sb.2 b (fun z => hb (by simp [z]))).trans (hk b ob (fun z => hb (by simp [z])) (fun z => hb (by simp [z])) q)) hf (Nat.le_refl _) new
    refine ⟨.ref s.heap.objs.size, _, I1, rfl, ⟨_, x, rfl, I.hok.fresh (Nat.le_refl _), rfl, ex⟩, ⟨⟨u', ?_⟩, st'.1.at fun o q => (sb.2 it (Ne.symm hne)).trans q, hne⟩, fun b hb => ?_⟩
    · have e1 : ((i + 1 : Nat) : Int) = (i : Int) + 1 := by omega
      rw [e1]; exact he'
    · have hb' : b < s.heap.objs.size := by
        rcases List.mem_cons.mp hb with z | z
        · rw [z]; exact hel
        · rw [List.mem_singleton.mp z]; exact hil
      rw [upd_ne (Nat.ne_of_lt hb')]
      exact (hf b hb).1
  done := by
    intro X hP hw hK hc i pins s σ H E I hf st hg
    subst hP hw hK
    obtain ⟨⟨old, he⟩, hit, hne⟩ := st
    obtain ⟨hq, hi⟩ := hg
    subst hi
    obtain ⟨its, rv, p, hz⟩ := I.tuple hq
    obtain ⟨f0, f1, f2, f3, f4, f5⟩ := hf it (by simp)
    have hl := rv.length
    have hh : X.A.in1.handled = none := I.ok.hd hc
    exact wpAny_pyNext_enum_endD (draws_tup hh hai its.toArray) he (by rw [List.size_toArray, ← hl]; exact ⟨hit, p⟩) fun h' eb => ⟨rfl, I.turned (t' := s.toks) (fun b o hb q => eb b o hb q) f0 f1 f3 f4 f5⟩
  self := fun A i s Q E st h => let ⟨⟨_, he⟩, _⟩ := st; wpAny_pyIter_enum he h
def iEnumT (K : PySem.W.Frag) (ta : TA) : TI := fun σ H R => ta σ H fun vs H1 => ∃ a xs, vs = [.ref a] ∧ SqT K H1 a xs ∧ R (IteT K a xs) H1
theorem pi_enumT {X : Cx} {e : Expr} {ta : TA} {p pos tpos : Pos} {elts : List Expr} {kk : Nat} (hg : Gl X "enumerate") (hm : X.mg "enumerate" = none) (ha : PA X [e] ta) (hs : starEach [e] X.env = [(false, eval e X.env)]) :
    PI X (.Tuple elts kk tpos) (.Call (.Name "enumerate" p) [e] [] pos) (iEnumT X.K ta) := by
  refine ⟨fun pins s σ H R I h => ?_⟩
  refine Call_ (ld_blt I hg hm boot_enumerate (PyProof.Rows.callWith_type1 (thn (ha.run pos pins s σ H _ I h) fun us s1 ⟨vs, H1, I1, r1, a, xs, ex, hq, q⟩ => ?_) hs rfl))
  subst ex
  rw [Vals.ref1 r1]
  obtain ⟨its, rv, p', hz⟩ := I1.tuple hq
  have hal : a < s1.heap.objs.size := by obtain ⟨_, z, _⟩ := id p'; exact Heap.lt_size z
  refine call_enumT p' fun h' he hit hk => wpAny_pyIter_enum he ?_
  have I2 : Inv X pins σ H1 { s1 with heap := h' } := I1.kept (t' := s1.toks) hk
  refine ⟨s1.heap.objs.size + 1, [s1.heap.objs.size + 1, s1.heap.objs.size], _, _, H1, rfl, I2, turn_enumT (Nat.ne_of_lt (Nat.lt_succ_of_lt hal)) (Nat.ne_of_lt hal), ⟨⟨.none, he⟩, hit, Nat.succ_ne_self _⟩, fun b hb => ?_, q⟩
  have hle : s1.heap.objs.size ≤ b := by
    rcases List.mem_cons.mp hb with z | z
    · rw [z]; exact Nat.le_add_right _ _
    · rw [List.mem_singleton.mp z]; exact Nat.le_refl _
  exact I1.fpOk hle (I1.hok.fresh hle)
end KL
end
section
set_option Elab.async false
set_option linter.all false
set_option maxRecDepth 100000
set_option maxHeartbeats 2000000
set_option autoImplicit false
/-! KLIter: what is walked, by data. -/
namespace KL
open PySem PySem.Spec PyProof.Rows L2 RZ

/-! ### the keys of a dict whose object is known -/
def Ikd (d : Addr) (o : Obj) (ks : List Addr) : It := ⟨fun i H => H d = some (RawO d o) ∧ i < ks.length, fun i H x H' => H' = H ∧ ∃ q, ks[i]? = some q ∧ x = .ref q, fun i H => H d = some (RawO d o) ∧ i = ks.length⟩
theorem turn_raw {P : Program} {w : World} {K : PySem.W.Frag} {tg : Expr} {d : Addr} {o : Obj} {es : Array DictEntry} {ep : Nat} {ks : List Addr} (it : Addr) (hx : o.ExactDict) (hod : o.data = .dict es ep) (hk : es.toList.map (·.key) = ks.map Value.ref) :
    Turn P w K tg (Ikd d o ks) [it] it (fun i h => h.IsKeyIter it d i ks.length ep) where
  mem := List.mem_singleton.mpr rfl
  obj := fun i h st b hb => by
    rw [List.mem_singleton.mp hb]
    obtain ⟨oi, e, c, dd⟩ := st
    exact ⟨oi, e, fun v z => by rw [dd] at z; cases z⟩
  keep := fun i h h' st k => st.at fun oi e => k it (List.mem_singleton.mpr rfl) oi e
  item := by
    intro X hP hw hK hc i pins s σ H E I hf st hg
    subst hP hw hK
    obtain ⟨f0, f1, f2, f3, f4, f5⟩ := hf it (List.mem_singleton.mpr rfl)
    obtain ⟨hd, hi⟩ := hg
    have hgd : s.heap.get? d = some o := (I.hok d _ hd).1
    have hlen : es.size = ks.length := by
      have := congrArg List.length hk
      simpa using this
    obtain ⟨q, hq⟩ : ∃ q, ks[i]? = some q := ⟨ks[i], List.getElem?_eq_getElem hi⟩
    have hie : i < es.size := by omega
    obtain ⟨en, hen⟩ : ∃ en, es[i]? = some en := ⟨es[i], Array.getElem?_eq_getElem hie⟩
    have hkey : en.key = .ref q := by
      have e1 : (es.toList.map (·.key))[i]? = some en.key := by
        rw [List.getElem?_map, Array.getElem?_toList, hen]; rfl
      rw [hk, List.getElem?_map, hq] at e1
      exact (Option.some.inj e1).symm
    refine next_key_item st hgd hod hlen hen fun h' st' sb => ?_
    have I1 : L2.Inv X pins σ H { s with heap := h' } := I.turned (t' := s.toks) (fun b ob hb e => (sb.2 b hb).trans e) f0 f1 f3 f4 f5
    obtain ⟨oi, e, c, dd⟩ := id st'
    exact ⟨en.key, rfl, go_of (s := { s with heap := h' }) e c dd (by decide) ⟨.ref q, H, I1, hkey, ⟨rfl, q, hq, rfl⟩, st', fun b hb => (hf b hb).1⟩⟩
  done := by
    intro X hP hw hK hc i pins s σ H E I hf st hg
    subst hP hw hK
    obtain ⟨f0, f1, f2, f3, f4, f5⟩ := hf it (List.mem_singleton.mpr rfl)
    obtain ⟨hd, hi⟩ := hg
    have hgd : s.heap.get? d = some o := (I.hok d _ hd).1
    have hlen : es.size = ks.length := by
      have := congrArg List.length hk
      simpa using this
    exact next_key_end (I.ok.hd hc) st hgd hod hlen (by omega) fun h' eb => ⟨rfl, I.turned (t' := s.toks) (fun b ob hb e => eb b ob hb e) f0 f1 f3 f4 f5⟩
  self := fun A i s Q E st h => by
    refine wpAny_pyIter_slot st.typeIs F.slot_dict_keyiterator_iter (wpAny_call_entry F.slot_dict_keyiterator_iter st.typeIs F.entry_dict_keyiterator_iter ?_ (F.args_dict_keyiterator_iter_1 _))
    show wpAny _ _ (ret (.ref it)) _ _ s
    exact wpAny_pure ⟨_, rfl, "dict_keyiterator", _, st.typeIs, F.slot_dict_keyiterator_next.lookup, h⟩

/-! ### a walk by data -/
/-- it goes over xs, while all that xs leans on at H (avoiding L) is kept -/
structure WD (X : Cx) (H : Hp) (L : Addr → Prop) (m : List Addr) (J : It) (xs : List D) : Prop where
  go : ∀ (i : Nat) (H2 : Hp) (L2 : Addr → Prop) (m2 : List Addr), i < xs.length → Mono H L m H2 L2 m2 → J.go i H2
  stop : ∀ (H2 : Hp) (L2 : Addr → Prop) (m2 : List Addr), Mono H L m H2 L2 m2 → J.stop xs.length H2
  yld : ∀ (i : Nat) (H2 : Hp) (L2 : Addr → Prop) (m2 : List Addr) (x : V) (H3 : Hp), i < xs.length → Mono H L m H2 L2 m2 → (∀ a, H2 a = none → ¬ L2 a) → J.yld i H2 x H3 →
    (H3 = H2 ∨ ∃ T o, H2 T = none ∧ H3 = upd H2 T o) ∧ ∃ d, xs[i]? = some d ∧ RP X H3 L2 m2 d x
def KI (X : Cx) (Z : Addr → Prop) (m : List Addr) (S : Store) (H : Hp) (xs : List D) (S' : Store) (R : It → Hp → Prop) : Prop :=
  ∀ m' H' J, Ext m S H m' S' H' → HRX X Z m' S' H' → WD X H' (LL Z m' S') m' J xs → R J H'
def tI (X : Cx) (f : Env → Store → Out (List D)) : TI := fun σ H R => ∃ Z ρ m S xs S', ER X H (LL Z m S) m σ ρ ∧ HRX X Z m S H ∧ f ρ S = some (.ok xs S') ∧ KI X Z m S H xs S' R
theorem PI.imp {X : Cx} {tg e : Expr} {t t' : TI} (h : PI X tg e t) (f : ∀ σ H R, t' σ H R → t σ H R) : PI X tg e t' := ⟨fun pins s σ H R I q => h.run pins s σ H R I (f σ H R q)⟩
section
variable {X : Cx} {tg : Expr} {Z : Addr → Prop} {m : List Addr} {S : Store} {H : Hp} {L : Addr → Prop}
theorem Mono.trans {H H1 H2 : Hp} {L L1 L2 : Addr → Prop} {m m1 m2 : List Addr} (a : Mono H L m H1 L1 m1) (b : Mono H1 L1 m1 H2 L2 m2) : Mono H L m H2 L2 m2 :=
  ⟨fun n c h => b.pre n c (a.pre n c h), fun c o h n => b.keep c o (a.keep c o h n) (a.noL c o h n), fun c o h n => b.noL c o (a.keep c o h n) (a.noL c o h n)⟩
theorem Reps.get {P : Program} {w : World} {K : PySem.W.Frag} {ds : List D} {vs : List V} {i : Nat} {v : V} (h : Reps P w K H L m ds vs) (e : vs[i]? = some v) : ∃ d, ds[i]? = some d ∧ Rep P w K H L m d v := by
  have hi : i < ds.length := by rw [h.length]; exact (List.getElem?_eq_some_iff.mp e).1
  obtain ⟨v', e1, r⟩ := h.at (i := i) (d := ds[i]) (List.getElem?_eq_getElem hi)
  rw [e] at e1; cases e1
  exact ⟨_, List.getElem?_eq_getElem hi, r⟩
theorem wd_lst {xs : List D} {a : Addr} {vs : List V} (h1 : LstAt H L a vs) (h2 : RPs X H L m xs vs) : WD X H L m (Itl X.K a) xs := by
  refine ⟨fun i H2 L2 m2 hi x => ?_, fun H2 L2 m2 x => ⟨vs, (h1.mono x).sq, by rw [h2.length]; exact Nat.le_refl _⟩, fun i H2 L2 m2 v H3 hi x _ y => ?_⟩
  · have hi' : i < vs.length := by rw [← h2.length]; exact hi
    exact ⟨vs, vs[i], (h1.mono x).sq, List.getElem?_eq_getElem hi'⟩
  · obtain ⟨e, y⟩ := y
    refine ⟨.inl e, ?_⟩
    rw [e]
    exact (h2.mono x).get (y vs (h1.mono x).sq)
theorem wd_tup {xs : List D} {a : Addr} {vs : List V} (h1 : TupAt X.K H L a vs) (h2 : RPs X H L m xs vs) : WD X H L m (Itt X.K a) xs := by
  refine ⟨fun i H2 L2 m2 hi x => ?_, fun H2 L2 m2 x => ⟨vs, (h1.mono x).sq, by rw [h2.length]; exact Nat.le_refl _⟩, fun i H2 L2 m2 v H3 hi x _ y => ?_⟩
  · have hi' : i < vs.length := by rw [← h2.length]; exact hi
    exact ⟨vs, vs[i], (h1.mono x).sq, List.getElem?_eq_getElem hi'⟩
  · obtain ⟨e, y⟩ := y
    refine ⟨.inl e, ?_⟩
    rw [e]
    exact (h2.mono x).get (y vs (h1.mono x).sq)
theorem wd_rng {lo : Int} {n : Nat} : WD X H L m (Itr lo n) (rangeL lo 1 n) := by
  have hl : ∀ (n : Nat) (lo c : Int), (rangeL lo c n).length = n := fun n => by
    induction n with
    | zero => intro lo c; rfl
    | succ n ih => intro lo c; show (rangeL (lo + c) c n).length + 1 = n + 1; rw [ih]
  have ha : ∀ (n : Nat) (lo : Int) (i : Nat), i < n → (rangeL lo 1 n)[i]? = some (.int (lo + i)) := fun n => by
    induction n with
    | zero => intro lo i h; omega
    | succ n ih =>
      intro lo i h
      cases i with
      | zero => show some (D.int lo) = _; congr 2; omega
      | succ i =>
        show (rangeL (lo + 1) 1 n)[i]? = _
        rw [ih (lo + 1) i (by omega)]
        congr 2
        show lo + 1 + (i : Int) = lo + ((i + 1 : Nat) : Int)
        omega
  refine ⟨fun i H2 L2 m2 hi x => by rw [hl] at hi; exact hi, fun H2 L2 m2 x => by rw [hl]; exact Nat.le_refl n, fun i H2 L2 m2 v H3 hi x _ y => ?_⟩
  rw [hl] at hi
  obtain ⟨e, rfl⟩ := y
  exact ⟨.inl e, _, ha n lo i hi, rfl⟩
theorem wd_rngC {lo c : Int} {n : Nat} : WD X H L m (Itc lo c n) (rangeL lo c n) := by
  have hl : ∀ (n : Nat) (lo c : Int), (rangeL lo c n).length = n := fun n => by
    induction n with
    | zero => intro lo c; rfl
    | succ n ih => intro lo c; show (rangeL (lo + c) c n).length + 1 = n + 1; rw [ih]
  have ha : ∀ (n : Nat) (lo : Int) (i : Nat), i < n → (rangeL lo c n)[i]? = some (.int (lo + (i : Nat) * c)) := fun n => by
    induction n with
    | zero => intro lo i h; omega
    | succ n ih =>
      intro lo i h
      cases i with
      | zero => show some (D.int lo) = _; congr 2; simp
      | succ i =>
        show (rangeL (lo + c) c n)[i]? = _
        rw [ih (lo + c) i (by omega)]
        congr 2
        show lo + c + (i : Int) * c = lo + ((i + 1 : Nat) : Int) * c
        rw [Int.natCast_add, Int.add_mul]; omega
  refine ⟨fun i H2 L2 m2 hi x => by rw [hl] at hi; exact hi, fun H2 L2 m2 x => by rw [hl]; exact Nat.le_refl n, fun i H2 L2 m2 v H3 hi x _ y => ?_⟩
  rw [hl] at hi
  obtain ⟨e, rfl⟩ := y
  exact ⟨.inl e, _, ha n lo i hi, rfl⟩
theorem wd_str {t : Txt} : WD X H L m (Its (strV t)) (t.map fun c => .str [c]) := by
  have hz : (strV t).cps.size = t.length := by simp [strV]
  refine ⟨fun i H2 L2 m2 hi x => ?_, fun H2 L2 m2 x => ?_, fun i H2 L2 m2 v H3 hi x _ y => ?_⟩
  · rw [List.length_map] at hi
    show i < (strV t).cps.size
    rw [hz]; exact hi
  · show (strV t).cps.size ≤ _
    rw [hz, List.length_map]; exact Nat.le_refl _
  · obtain ⟨e, c, h1, rfl⟩ := y
    refine ⟨.inl e, .str [c], ?_, rfl⟩
    have : t[i]? = some c := by simpa [strV] using h1
    rw [List.getElem?_map, this]; rfl
theorem wd_keys {d : Addr} {ks : List D} {xs : List (KK × Addr × Value)} {o : Obj} (hn : ¬ L d) (hd : H d = some (RawO d o)) (hk : KReps X.prog X.w X.K H L m ks xs) : WD X H L m (Ikd d o (xs.map (·.2.1))) ks := by
  have hl : ∀ {ks : List D} {xs : List (KK × Addr × Value)}, KReps X.prog X.w X.K H L m ks xs → xs.length = ks.length := fun {ks} => by
    induction ks with
    | nil => intro xs h; rw [show xs = [] from h]; rfl
    | cons k ks ih =>
      intro xs h
      obtain ⟨_, _, _, ys, rfl, _, _, _, h4⟩ := h
      simp [ih h4]
  have hg : ∀ {H2 : Hp} {L2 : Addr → Prop} {m2 : List Addr} {ks : List D} {xs : List (KK × Addr × Value)} {i : Nat} {q : Addr}, KReps X.prog X.w X.K H2 L2 m2 ks xs → (xs.map (·.2.1))[i]? = some q → ∃ k, ks[i]? = some k ∧ RP X H2 L2 m2 k (.ref q) := fun {H2 L2 m2 ks} => by
    induction ks with
    | nil => intro xs i q h e; rw [show xs = [] from h] at e; simp at e
    | cons k ks ih =>
      intro xs i q h e
      obtain ⟨_, b, _, ys, rfl, _, _, h3, h4⟩ := h
      cases i with
      | zero =>
        have : b = q := by simpa using e
        rw [← this]
        exact ⟨k, rfl, h3⟩
      | succ i => exact ih h4 (by simpa using e)
  refine ⟨fun i H2 L2 m2 hi x => ⟨x.keep _ _ hd hn, by rw [List.length_map, hl hk]; exact hi⟩, fun H2 L2 m2 x => ⟨x.keep _ _ hd hn, by rw [List.length_map, hl hk]⟩, fun i H2 L2 m2 v H3 hi x _ y => ?_⟩
  obtain ⟨e, q, h1, rfl⟩ := y
  refine ⟨.inl e, ?_⟩
  rw [e]
  exact hg (hk.mono x) h1
theorem enumL_at : ∀ {xs : List D} {n i : Nat} {d : D}, xs[i]? = some d → (enumL n xs)[i]? = some (.tup [.int (n + i : Nat), d])
  | [], n, i, d, h => by simp at h
  | x :: xs, n, 0, d, h => by
    have : x = d := by simpa using h
    rw [this]; rfl
  | x :: xs, n, i + 1, d, h => by
    show (enumL (n + 1) xs)[i]? = _
    rw [enumL_at (n := n + 1) (by simpa using h)]
    congr 4
    omega
theorem enumL_len : ∀ {xs : List D} {n : Nat}, (enumL n xs).length = xs.length
  | [], n => rfl
  | x :: xs, n => by show (enumL (n + 1) xs).length + 1 = xs.length + 1; rw [enumL_len]
theorem upd_mono {H2 : Hp} {L2 : Addr → Prop} {m2 : List Addr} {T : Addr} (o : HO) (hT : H2 T = none) : Mono H2 L2 m2 (upd H2 T o) L2 m2 := ⟨fun _ _ h => h, fun b u h _ => updne hT h, fun _ _ _ h => h⟩
theorem wd_enum {xs : List D} {a : Addr} {vs : List V} (h1 : TupAt X.K H L a vs) (h2 : RPs X H L m xs vs) : WD X H L m (IteT X.K a vs) (enumL 0 xs) := by
  refine ⟨fun i H2 L2 m2 hi x => ⟨(h1.mono x).sq, by rw [enumL_len] at hi; rw [← h2.length]; exact hi⟩, fun H2 L2 m2 x => ⟨(h1.mono x).sq, by rw [enumL_len]; exact h2.length⟩, fun i H2 L2 m2 v H3 hi x hL y => ?_⟩
  obtain ⟨T, z, rfl, hT, rfl, e⟩ := y
  obtain ⟨d, e1, r⟩ := (h2.mono x).get e
  refine ⟨.inr ⟨T, _, hT, rfl⟩, _, enumL_at e1, T, _, rfl, .inl ⟨Rd.upd, hL T hT⟩, .int (i : Nat), [z], rfl, ?_, z, [], rfl, r.mono (upd_mono _ hT), rfl⟩
  show V.int (i : Nat) = V.int ((0 + i : Nat) : Int)
  rw [Nat.zero_add]
theorem zip2_len : ∀ {xs ys : List D}, (zip2 xs ys).length = min xs.length ys.length
  | [], ys => by simp [zip2]
  | x :: xs, [] => by simp [zip2]
  | x :: xs, y :: ys => by
    show (zip2 xs ys).length + 1 = min (xs.length + 1) (ys.length + 1)
    rw [zip2_len]; omega
theorem zip2_at : ∀ {xs ys : List D} {i : Nat} {d e : D}, xs[i]? = some d → ys[i]? = some e → (zip2 xs ys)[i]? = some (.tup [d, e])
  | [], ys, i, d, e, h, _ => by simp at h
  | x :: xs, [], i, d, e, _, h => by simp at h
  | x :: xs, y :: ys, 0, d, e, h, h' => by
    have h1 : x = d := by simpa using h
    have h2 : y = e := by simpa using h'
    rw [h1, h2]; rfl
  | x :: xs, y :: ys, i + 1, d, e, h, h' => by
    show (zip2 xs ys)[i]? = _
    exact zip2_at (by simpa using h) (by simpa using h')
theorem wd_zipT {xs ys : List D} {a b : Addr} {vs us : List V} (h1 : TupAt X.K H L a vs) (h2 : RPs X H L m xs vs) (h3 : TupAt X.K H L b us) (h4 : RPs X H L m ys us) : WD X H L m (ItzT X.K a b) (zip2 xs ys) := by
  refine ⟨fun i H2 L2 m2 hi x => ?_, fun H2 L2 m2 x => ⟨vs, us, (h1.mono x).sq, (h3.mono x).sq, ?_⟩, fun i H2 L2 m2 v H3 hi x hL y => ?_⟩
  · rw [zip2_len] at hi
    have i1 : i < vs.length := by rw [← h2.length]; omega
    have i2 : i < us.length := by rw [← h4.length]; omega
    exact ⟨vs, us, vs[i], us[i], (h1.mono x).sq, (h3.mono x).sq, List.getElem?_eq_getElem i1, List.getElem?_eq_getElem i2⟩
  · rw [zip2_len, ← h2.length, ← h4.length]; omega
  · obtain ⟨T, z, z', rfl, hT, rfl, e, e'⟩ := y
    obtain ⟨d, e1, r⟩ := (h2.mono x).get (e vs (h1.mono x).sq)
    obtain ⟨d', e2, r'⟩ := (h4.mono x).get (e' us (h3.mono x).sq)
    exact ⟨.inr ⟨T, _, hT, rfl⟩, _, zip2_at e1 e2, T, _, rfl, .inl ⟨Rd.upd, hL T hT⟩, z, [z'], rfl, r.mono (upd_mono _ hT), z', [], rfl, r'.mono (upd_mono _ hT), rfl⟩
theorem wd_zipL {xs ys : List D} {a b : Addr} {vs us : List V} (h1 : LstAt H L a vs) (h2 : RPs X H L m xs vs) (h3 : LstAt H L b us) (h4 : RPs X H L m ys us) : WD X H L m (Itz X.K a b) (zip2 xs ys) := by
  refine ⟨fun i H2 L2 m2 hi x => ?_, fun H2 L2 m2 x => ⟨vs, us, (h1.mono x).sq, (h3.mono x).sq, ?_⟩, fun i H2 L2 m2 v H3 hi x hL y => ?_⟩
  · rw [zip2_len] at hi
    have i1 : i < vs.length := by rw [← h2.length]; omega
    have i2 : i < us.length := by rw [← h4.length]; omega
    exact ⟨vs, us, vs[i], us[i], (h1.mono x).sq, (h3.mono x).sq, List.getElem?_eq_getElem i1, List.getElem?_eq_getElem i2⟩
  · rw [zip2_len, ← h2.length, ← h4.length]; omega
  · obtain ⟨T, z, z', rfl, hT, rfl, e, e'⟩ := y
    obtain ⟨d, e1, r⟩ := (h2.mono x).get (e vs (h1.mono x).sq)
    obtain ⟨d', e2, r'⟩ := (h4.mono x).get (e' us (h3.mono x).sq)
    exact ⟨.inr ⟨T, _, hT, rfl⟩, _, zip2_at e1 e2, T, _, rfl, .inl ⟨Rd.upd, hL T hT⟩, z, [z'], rfl, r.mono (upd_mono _ hT), z', [], rfl, r'.mono (upd_mono _ hT), rfl⟩
end
/-! ### the rules -/
section
variable {X : Cx} {tg e : Expr} {f : Env → Store → Out (List D)} {a : Env → Store → Out D} {g : Env → Store → Out (List D)} {pos p : Pos}
/-- a list, a tuple, a dict with tuple keys, a text -/
theorem pi_itD (he : PE X e (tD X a)) (hf : ∀ ρ S, f ρ S = bnd (a ρ S) fun d S => lift (walkD S d) S) : PI X tg e (tI X f) := by
  refine ⟨fun pins s σ H R I ⟨Z, ρ, m, S, xs, S', er, hr, ef, k⟩ => ?_⟩
  rw [hf] at ef
  obtain ⟨d, S1, e1, ef⟩ := bnd_ok ef
  obtain ⟨e2, rfl⟩ := lift_ok ef
  cases d with
  | lst ys =>
    obtain rfl : ys = xs := Option.some.inj e2
    refine (pi_list he).run pins s σ H R I ⟨Z, ρ, m, S, .lst ys, S1, er, hr, e1, fun m1 H1 v x1 hr1 r1 => ?_⟩
    obtain ⟨b, vs, rfl, h1, h2⟩ := r1
    exact ⟨b, rfl, ⟨vs, h1.sq⟩, k m1 H1 _ x1 hr1 (wd_lst h1 h2)⟩
  | tup ys =>
    obtain rfl : ys = xs := Option.some.inj e2
    refine (pi_tup he).run pins s σ H R I ⟨Z, ρ, m, S, .tup ys, S1, er, hr, e1, fun m1 H1 v x1 hr1 r1 => ?_⟩
    obtain ⟨b, vs, rfl, h1, h2⟩ := r1
    exact ⟨b, rfl, ⟨vs, h1.sq⟩, k m1 H1 _ x1 hr1 (wd_tup h1 h2)⟩
  | str t =>
    cases (show some (t.map fun c => D.str [c]) = some xs from e2)
    refine (pi_str he).run pins s σ H R I ⟨Z, ρ, m, S, .str t, S1, er, hr, e1, fun m1 H1 v x1 hr1 r1 => ?_⟩
    exact ⟨strV t, r1, k m1 H1 _ x1 hr1 wd_str⟩
  | dT ks ds =>
    obtain rfl : ks = xs := Option.some.inj e2
    refine thn (he.run pins s σ H _ I ⟨Z, ρ, m, S, .dT ks ds, S1, er, hr, e1, fun m1 H1 v x1 hr1 r1 => (show ∃ m1, Ext m S H m1 S1 H1 ∧ HRX X Z m1 S1 H1 ∧ RP X H1 (LL Z m1 S1) m1 (.dT ks ds) v from ⟨m1, x1, hr1, r1⟩)⟩) fun u s1 ⟨v, H1, I1, rv, m1, x1, hr1, r1⟩ => ?_
    obtain ⟨b, ys, vs, rfl, ⟨⟨o, es, ep, h1, h2, h3, h4, h5⟩, h6, h7⟩, hn, h8, h9, h10⟩ := r1
    cases rv
    have hgd : s1.heap.get? b = some o := (I1.hok b _ h1).1
    have hkeys : es.toList.map (·.key) = (ys.map (·.2.1)).map Value.ref := by
      rw [h4, List.map_map, List.map_map]; rfl
    have hz : (ys.map (·.2.1)).length = es.size := by
      have := congrArg List.length hkeys
      simpa using this.symm
    refine iter_keys h6 hgd h2 h3 (pi_one (tk := s1.toks) I1 _ (turn_raw (ks := ys.map (·.2.1)) _ h2 h3 hkeys) ⟨_, Heap.get?_push_size _ rfl, rfl, ?_⟩ (k m1 H1 _ x1 hr1 (wd_keys hn h1 h8)))
    rw [← hz]; rfl
  | _ => cases e2
theorem b62_iff {i : Int} (h : b62 i = true) : -(2 ^ 62) ≤ i ∧ i < 2 ^ 62 := by
  unfold b62 at h
  simp only [Bool.and_eq_true, decide_eq_true_eq] at h
  omega
theorem pi_rng1 {es : Expr} (hg : Gl X "range") (hm : X.mg "range" = none) (ha : PA X [es] (tDs X g)) (hs : starEach [es] X.env = [(false, eval es X.env)]) (hl : ∀ ρ S ds S', g ρ S = some (.ok ds S') → ds.length = 1) (hf : ∀ ρ S, f ρ S = bnd (g ρ S) fun ds S => match rngD ds with
    | some (i, c, n) => ok (rangeL i c n) S
    | none => none) : PI X tg (.Call (.Name "range" p) [es] [] pos) (tI X f) :=
  PI.imp (pi_range1 hg hm ha hs) fun σ H R ⟨Z, ρ, m, S, xs, S', er, hr, ef, k⟩ => by
    rw [hf] at ef
    obtain ⟨ds, S1, e1, ef⟩ := bnd_ok ef
    refine ⟨Z, ρ, m, S, ds, S1, er, hr, e1, fun m1 H1 vs x1 hr1 r1 => ?_⟩
    obtain ⟨d, rfl⟩ := List.length_eq_one_iff.mp (hl _ _ _ _ e1)
    · obtain ⟨v, rfl, r⟩ := RPs.one r1
      cases d <;> first | (cases ef; done) | skip
      rename_i j
      have ef : (match (if b62 j = true then some ((0 : Int), (1 : Int), j.toNat) else none) with
        | some (i, c, n) => ok (rangeL i c n) S1
        | none => none) = some (.ok xs S') := ef
      by_cases hb : b62 j = true
      · rw [if_pos hb] at ef
        obtain ⟨rfl, rfl⟩ := ok_ok ef
        obtain ⟨q1, q2⟩ := b62_iff hb
        exact ⟨j, by rw [show v = V.int j from r], q1, q2, k m1 H1 _ x1 hr1 wd_rng⟩
      · rw [if_neg hb] at ef; cases ef
theorem pi_rng2 {e1 e2 : Expr} (hg : Gl X "range") (hm : X.mg "range" = none) (ha : PA X [e1, e2] (tDs X g)) (hs : starEach [e1, e2] X.env = [(false, eval e1 X.env), (false, eval e2 X.env)]) (hs2 : starEach [e2] X.env = [(false, eval e2 X.env)]) (hl : ∀ ρ S ds S', g ρ S = some (.ok ds S') → ds.length = 2) (hf : ∀ ρ S, f ρ S = bnd (g ρ S) fun ds S => match rngD ds with
    | some (i, c, n) => ok (rangeL i c n) S
    | none => none) : PI X tg (.Call (.Name "range" p) [e1, e2] [] pos) (tI X f) :=
  PI.imp (pi_range2 hg hm ha hs hs2) fun σ H R ⟨Z, ρ, m, S, xs, S', er, hr, ef, k⟩ => by
    rw [hf] at ef
    obtain ⟨ds, S1, e1, ef⟩ := bnd_ok ef
    refine ⟨Z, ρ, m, S, ds, S1, er, hr, e1, fun m1 H1 vs x1 hr1 r1 => ?_⟩
    obtain ⟨d, d', rfl⟩ : ∃ d d', ds = [d, d'] := by
      have h1 := hl _ _ _ _ e1
      match ds, h1 with
      | [d, d'], _ => exact ⟨d, d', rfl⟩
    · obtain ⟨v, v', rfl, r, r'⟩ := RPs.two r1
      cases d <;> first | (cases ef; done) | skip
      cases d' <;> first | (cases ef; done) | skip
      rename_i i j
      have ef : (match (if (b62 i && b62 j) = true then some (i, (1 : Int), (j - i).toNat) else none) with
        | some (i, c, n) => ok (rangeL i c n) S1
        | none => none) = some (.ok xs S') := ef
      by_cases hb : (b62 i && b62 j) = true
      · rw [if_pos hb] at ef
        obtain ⟨rfl, rfl⟩ := ok_ok ef
        rw [Bool.and_eq_true] at hb
        obtain ⟨q1, q2⟩ := b62_iff hb.1
        obtain ⟨q3, q4⟩ := b62_iff hb.2
        exact ⟨i, j, by rw [show v = V.int i from r, show v' = V.int j from r'], ⟨q1, q2, q3, q4⟩, k m1 H1 _ x1 hr1 wd_rng⟩
      · rw [if_neg hb] at ef; cases ef
theorem pi_enmD {elts : List Expr} {kk : Nat} {tpos : Pos} (hg : Gl X "enumerate") (hm : X.mg "enumerate" = none) (he : PE X e (tD X a)) (hn : notStar e = true) (hf : ∀ ρ S, f ρ S = bnd (a ρ S) fun d S => match d with
    | .tup xs => ok (enumL 0 xs) S
    | _ => none) : PI X (.Tuple elts kk tpos) (.Call (.Name "enumerate" p) [e] [] pos) (tI X f) :=
  PI.imp (pi_enumT hg hm (pa_cons he pa_nil (star_cons hn)) (star_cons hn)) fun σ H R ⟨Z, ρ, m, S, xs, S', er, hr, ef, k⟩ => by
    rw [hf] at ef
    obtain ⟨d, S1, e1, ef⟩ := bnd_ok ef
    refine ⟨Z, ρ, m, S, d, S1, er, hr, e1, fun m1 H1 v x1 hr1 r1 => ?_⟩
    cases d <;> first | (cases ef; done) | skip
    rename_i ys
    obtain ⟨rfl, rfl⟩ := ok_ok ef
    obtain ⟨b, vs, rfl, h1, h2⟩ := r1
    exact ⟨b, vs, rfl, h1.sq, k m1 H1 _ x1 hr1 (wd_enum h1 h2)⟩
theorem zipD_cases {S : Store} {ds r : List D} (h : zipD S ds = some r) : (∃ xs ys, ds = [.tup xs, .tup ys] ∧ r = zip2 xs ys) ∨ ∃ xs ys, ds = [.lst xs, .lst ys] ∧ r = zip2 xs ys := by
  match ds with
  | [] => cases h
  | [_] => cases h
  | _ :: _ :: _ :: _ => cases h
  | [d, e] =>
    cases d <;> cases e <;> first
      | (cases h; done)
      | exact .inl ⟨_, _, rfl, (Option.some.inj h).symm⟩
      | exact .inr ⟨_, _, rfl, (Option.some.inj h).symm⟩
theorem pi_zipD {e1 e2 : Expr} {elts : List Expr} {kk : Nat} {tpos : Pos} (hg : Gl X "zip") (hm : X.mg "zip" = none) (ha : PA X [e1, e2] (tDs X g)) (hs : noStars [e1, e2] = true) (hf : ∀ ρ S, f ρ S = bnd (g ρ S) fun ds S => lift (zipD S ds) S) :
    PI X (.Tuple elts kk tpos) (.Call (.Name "zip" p) [e1, e2] [] pos) (tI X f) := by
  have h' : (notStar e1 && (notStar e2 && true)) = true := hs
  simp only [Bool.and_eq_true] at h'
  refine PI.imp (pi_zipA hg hm ha (star_cons h'.1) (back_plain (es := [e2]) (by show (notStar e2 && true) = true; rw [h'.2.1]; rfl)).1) fun σ H R ⟨Z, ρ, m, S, xs, S', er, hr, ef, k⟩ => ?_
  rw [hf] at ef
  obtain ⟨ds, S1, e1, ef⟩ := bnd_ok ef
  obtain ⟨e3, rfl⟩ := lift_ok ef
  refine ⟨Z, ρ, m, S, ds, S1, er, hr, e1, fun m1 H1 vs x1 hr1 r1 => ?_⟩
  rcases zipD_cases e3 with ⟨xs, ys, rfl, rfl⟩ | ⟨xs, ys, rfl, rfl⟩
  · obtain ⟨v, v', rfl, ⟨b, vs, rfl, h1, h2⟩, ⟨b', vs', rfl, h3, h4⟩⟩ := RPs.two r1
    exact ⟨b, b', vs, vs', rfl, .inr ⟨h1.sq, h3.sq, k m1 H1 _ x1 hr1 (wd_zipT h1 h2 h3 h4)⟩⟩
  · obtain ⟨v, v', rfl, ⟨b, vs, rfl, h1, h2⟩, ⟨b', vs', rfl, h3, h4⟩⟩ := RPs.two r1
    exact ⟨b, b', vs, vs', rfl, .inl ⟨h1.sq, h3.sq, k m1 H1 _ x1 hr1 (wd_zipL h1 h2 h3 h4)⟩⟩
end
end KL
end
section
set_option Elab.async false
set_option linter.all false
set_option maxRecDepth 100000
set_option maxHeartbeats 2000000
set_option autoImplicit false
/-! KLStm: targets and statements by data. -/
namespace KL
open PySem PySem.Spec PyProof.Rows L2

def KS (X : Cx) (Z : Addr → Prop) (m : List Addr) (S : Store) (H : Hp) (r : SR) (D : Ends) : Prop := match r with
  | .nx ρ' S' => ∀ m' H' σ', Ext m S H m' S' H' → HRX X Z m' S' H' → ER X H' (LL Z m' S') m' σ' ρ' → D.nx σ' H'
  | .ret d S' => ∀ m' H' v, Ext m S H m' S' H' → HRX X Z m' S' H' → RP X H' (LL Z m' S') m' d v → D.rt v H'
  | .brk ρ' S' => ∀ m' H' σ', Ext m S H m' S' H' → HRX X Z m' S' H' → ER X H' (LL Z m' S') m' σ' ρ' → D.bk σ' H'
  | .ct ρ' S' => ∀ m' H' σ', Ext m S H m' S' H' → HRX X Z m' S' H' → ER X H' (LL Z m' S') m' σ' ρ' → D.ct σ' H'
  | .exc _ _ _ _ => False
def tS (X : Cx) (f : Env → Store → Option SR) : TS := fun D σ H => ∃ Z ρ m S r, ER X H (LL Z m S) m σ ρ ∧ HRX X Z m S H ∧ f ρ S = some r ∧ KS X Z m S H r D
theorem PS.imp {X : Cx} {st : Stmt} {t t' : TS} (h : PS X st t) (f : ∀ D σ H, t' D σ H → t D σ H) : PS X st t' := ⟨fun pins s σ H D I q => h.run pins s σ H D I (f D σ H q)⟩
theorem PSs.imp {X : Cx} {st : List Stmt} {t t' : TS} (h : PSs X st t) (f : ∀ D σ H, t' D σ H → t D σ H) : PSs X st t' := ⟨fun pins s σ H D I q => h.run pins s σ H D I (f D σ H q)⟩
theorem PG.imp {X : Cx} {e : Expr} {t t' : TG} (h : PG X e t) (f : ∀ v σ H Q, t' v σ H Q → t v σ H Q) : PG X e t' := ⟨fun pins s σ H v u Q I r q => h.run pins s σ H v u Q I r (f v σ H Q q)⟩
theorem PGs.imp {X : Cx} {e : List Expr} {t t' : TGs} (h : PGs X e t) (f : ∀ v σ H Q, t' v σ H Q → t v σ H Q) : PGs X e t' := ⟨fun pins s σ H v u Q I r q => h.run pins s σ H v u Q I r (f v σ H Q q)⟩
section
variable {X : Cx} {Z : Addr → Prop} {m m1 : List Addr} {S S1 : Store} {H H1 : Hp} {σ : L2.St} {ρ : Env}
theorem KS.from {r : SR} {D : Ends} (k : KS X Z m S H r D) (x : Ext m S H m1 S1 H1) : KS X Z m1 S1 H1 r D := by
  cases r with
  | nx ρ' S' => exact fun m' H' σ' y hr er => k m' H' σ' (x.trans y) hr er
  | ret d S' => exact fun m' H' v y hr er => k m' H' v (x.trans y) hr er
  | brk ρ' S' => exact fun m' H' σ' y hr er => k m' H' σ' (x.trans y) hr er
  | ct ρ' S' => exact fun m' H' σ' y hr er => k m' H' σ' (x.trans y) hr er
  | exc c p ρ' S' => exact k
theorem bndS_ok {α : Type} {r : Out α} {f : α → Store → Option SR} {R : SR} {D : Ends} (h : bndS ρ r f = some R) (k : KS X Z m S H R D) : ∃ a S1, r = some (.ok a S1) ∧ f a S1 = some R := by
  cases r with
  | none => cases h
  | some r => cases r with
    | ok a S1 => exact ⟨a, S1, rfl, h⟩
    | exc c p S1 =>
      cases (show some (SR.exc c p ρ S1) = some R from h)
      exact k.elim
theorem ER.set {L : Addr → Prop} {i : Nat} {d : D} {v : V} (h : ER X H L m σ ρ) (r : RP X H L m d v) : ER X H L m (σ.set i (some v)) (ρ.set i (some d)) := by
  refine ⟨by rw [List.length_set, List.length_set]; exact h.1, fun j e hj => ?_⟩
  by_cases hi : i = j
  · subst hi
    by_cases hl : i < ρ.length
    · rw [List.getElem?_set_self hl] at hj
      cases hj
      exact ⟨v, by rw [List.getElem?_set_self (by rw [h.1]; exact hl)], r⟩
    · rw [List.getElem?_eq_none (by rw [List.length_set]; omega)] at hj
      cases hj
  · rw [List.getElem?_set_ne hi] at hj
    obtain ⟨w, h1, h2⟩ := h.2 j e hj
    exact ⟨w, by rw [List.getElem?_set_ne hi]; exact h1, h2⟩
/-! ### targets -/
def gD (X : Cx) (f : D → Env → Store → Option SR) : TG := fun v σ H Q => ∃ Z ρ m S d ρ' S', ER X H (LL Z m S) m σ ρ ∧ HRX X Z m S H ∧ RP X H (LL Z m S) m d v ∧ f d ρ S = some (.nx ρ' S') ∧
  ∀ m' H' σ', Ext m S H m' S' H' → HRX X Z m' S' H' → ER X H' (LL Z m' S') m' σ' ρ' → Q σ' H'
def gDs (X : Cx) (f : List D → Env → Store → Option SR) : TGs := fun vs σ H Q => ∃ Z ρ m S ds ρ' S', ER X H (LL Z m S) m σ ρ ∧ HRX X Z m S H ∧ RPs X H (LL Z m S) m ds vs ∧ f ds ρ S = some (.nx ρ' S') ∧
  ∀ m' H' σ', Ext m S H m' S' H' → HRX X Z m' S' H' → ER X H' (LL Z m' S') m' σ' ρ' → Q σ' H'
theorem pg_nameD {i : Nat} {x : Str} {pos : Pos} {f : D → Env → Store → Option SR} (hN : X.N.Nodup) (hi : X.N[i]? = some x) (hx : Loc X.env.scope x) (hf : X.fn x = true ∨ X.env.scope.names.lookup x = some .local) (h : ∀ d ρ S, f d ρ S = some (.nx (ρ.set i (some d)) S)) : PG X (.Name x pos) (gD X f) :=
  PG.imp (pg_name hN hi hx hf) fun v σ H Q ⟨Z, ρ, m, S, d, ρ', S', er, hr, rd, e, k⟩ => by
    rw [h] at e
    cases e
    exact k m H _ Ext.refl hr (er.set rd)
theorem pgs_nilD {f : List D → Env → Store → Option SR} (h : ∀ ds ρ S R, f ds ρ S = some R → ds = [] ∧ R = .nx ρ S) : PGs X [] (gDs X f) :=
  PGs.imp pgs_nil fun vs σ H Q ⟨Z, ρ, m, S, ds, ρ', S', er, hr, rd, e, k⟩ => by
    obtain ⟨rfl, e2⟩ := h _ _ _ _ e
    cases e2
    exact ⟨rd, k m H σ Ext.refl hr er⟩
theorem assign_cons {e : Expr} {es : List Expr} {env : PySem.Env} (h : notStar e = true) : assignEach (e :: es) env = (false, assign e env) :: assignEach es env := by
  cases e <;> first | rfl | cases h
theorem pgs_consD {e : Expr} {es : List Expr} {g : D → Env → Store → Option SR} {gs f : List D → Env → Store → Option SR} (h1 : PG X e (gD X g)) (h2 : PGs X es (gDs X gs)) (he : notStar e = true)
    (hf : ∀ (ds : List D) (ρ : Env) (S : Store) (R : Env × Store), f ds ρ S = some (.nx R.1 R.2) → ∃ d ds' ρ1 S1, ds = d :: ds' ∧ g d ρ S = some (.nx ρ1 S1) ∧ gs ds' ρ1 S1 = some (.nx R.1 R.2)) : PGs X (e :: es) (gDs X f) :=
  PGs.imp (pgs_cons h1 h2 (by rw [assign_cons he]; rfl)) fun vs σ H Q ⟨Z, ρ, m, S, ds, ρ', S', er, hr, rd, e, k⟩ => by
    obtain ⟨d, ds', ρ1, S1, rfl, e1, e2⟩ := hf _ _ _ (ρ', S') e
    obtain ⟨v, us, rfl, r1, r2⟩ := rd
    exact ⟨v, us, rfl, Z, ρ, m, S, d, ρ1, S1, er, hr, r1, e1, fun m1 H1 σ1 x1 hr1 er1 => ⟨Z, ρ1, m1, S1, ds', ρ', S', er1, hr1, r2.mono x1.mono, e2, fun m2 H2 σ2 x2 hr2 er2 => k m2 H2 σ2 (x1.trans x2) hr2 er2⟩⟩
theorem assign_plain {env : PySem.Env} : ∀ {es : List Expr}, noStars es = true → (assignEach es env).findIdx? (·.1) = none ∧ (assignEach es env).length = es.length
  | [], _ => ⟨rfl, rfl⟩
  | e :: es, h => by
    have h' : (notStar e && es.all notStar) = true := h
    rw [Bool.and_eq_true] at h'
    obtain ⟨i1, i2⟩ := assign_plain (env := env) (es := es) h'.2
    rw [assign_cons h'.1]
    refine ⟨?_, by rw [List.length_cons, List.length_cons, i2]⟩
    rw [List.findIdx?_cons, i1]; rfl
theorem pg_tupD {es : List Expr} {k : Nat} {pos : Pos} {gs : List D → Env → Store → Option SR} {f : D → Env → Store → Option SR} (hc : X.calm = true) (h : PGs X es (gDs X gs)) (hn : noStars es = true)
    (hl : ∀ ds ρ S R, gs ds ρ S = some R → ds.length = es.length) (hf : ∀ d ρ S R, f d ρ S = some R → ∃ ds, d = .tup ds ∧ gs ds ρ S = some R) : PG X (.Tuple es k pos) (gD X f) := by
  obtain ⟨i1, i2⟩ := assign_plain (env := X.env) hn
  refine PG.imp (pg_tup hc h i2 i1) fun v σ H Q ⟨Z, ρ, m, S, d, ρ', S', er, hr, rd, e, k⟩ => ?_
  obtain ⟨ds, e5, e6⟩ := hf _ _ _ _ e
  subst e5
  obtain ⟨a, vs, rfl, r1, r2⟩ := rd
  exact ⟨a, vs, rfl, r1.sq, by rw [← r2.length]; exact hl _ _ _ _ e6, Z, ρ, m, S, ds, ρ', S', er, hr, r2, e6, k⟩
/-! ### plain statements -/
variable {st : Stmt} {sts : List Stmt} {f g : Env → Store → Option SR} {a : Env → Store → Out D} {e : Expr} {pos : Pos}
theorem ps_asgD {tg : Expr} {t : D → Env → Store → Option SR} (he : PE X e (tD X a)) (hg : PG X tg (gD X t)) (hs : swapsWithSole [tg] e pos.line X.env = pure false) (hw : swappedStores [tg] e X.env = pure none) (hn : notStar tg = true)
    (ht : ∀ d ρ S R, t d ρ S = some R → (∃ ρ' S', R = .nx ρ' S') ∨ ∃ c p ρ' S', R = .exc c p ρ' S') (hf : ∀ ρ S, f ρ S = bndS ρ (a ρ S) fun d S => t d ρ S) : PS X (.Assign [tg] e pos) (tS X f) :=
  PS.imp (ps_asg he hg hs hw (by rw [assign_cons hn]; rfl)) fun D σ H ⟨Z, ρ, m, S, r, er, hr, ef, k⟩ => by
    rw [hf] at ef
    obtain ⟨d, S1, e1, ef⟩ := bndS_ok ef k
    refine ⟨Z, ρ, m, S, d, S1, er, hr, e1, fun m1 H1 v x1 hr1 r1 => ?_⟩
    rcases ht _ _ _ _ ef with ⟨ρ', S', rfl⟩ | ⟨c, p, ρ', S', rfl⟩
    · exact ⟨Z, ρ, m1, S1, d, ρ', S', er.mono x1.mono, hr1, r1, ef, fun m2 H2 σ2 x2 hr2 er2 => k m2 H2 σ2 (x1.trans x2) hr2 er2⟩
    · exact k.elim
theorem ps_exprD (he : PE X e (tD X a)) (hs : swapsWith e none pos.line X.env = pure false) (hf : ∀ ρ S, f ρ S = bndS ρ (a ρ S) fun _ S => some (.nx ρ S)) : PS X (.Expr e pos) (tS X f) :=
  PS.imp (ps_expr he hs) fun D σ H ⟨Z, ρ, m, S, r, er, hr, ef, k⟩ => by
    rw [hf] at ef
    obtain ⟨d, S1, e1, ef⟩ := bndS_ok ef k
    cases ef
    exact ⟨Z, ρ, m, S, d, S1, er, hr, e1, fun m1 H1 v x1 hr1 r1 => k m1 H1 σ x1 hr1 (er.mono x1.mono)⟩
theorem ps_retD (he : PE X e (tD X a)) (hf : ∀ ρ S, f ρ S = bndS ρ (a ρ S) fun d S => some (.ret d S)) : PS X (.Return (some e) pos) (tS X f) :=
  PS.imp (ps_ret he) fun D σ H ⟨Z, ρ, m, S, r, er, hr, ef, k⟩ => by
    rw [hf] at ef
    obtain ⟨d, S1, e1, ef⟩ := bndS_ok ef k
    cases ef
    exact ⟨Z, ρ, m, S, d, S1, er, hr, e1, fun m1 H1 v x1 hr1 r1 => k m1 H1 v x1 hr1 r1⟩
theorem ps_retND (hf : ∀ ρ S, f ρ S = some (.ret .non S)) : PS X (.Return none pos) (tS X f) :=
  PS.imp ps_retN fun D σ H ⟨Z, ρ, m, S, r, er, hr, ef, k⟩ => by
    rw [hf] at ef
    cases ef
    exact k m H .non Ext.refl hr rfl
theorem ps_passD (hf : ∀ ρ S, f ρ S = some (.nx ρ S)) : PS X (.Pass pos) (tS X f) :=
  PS.imp ps_pass fun D σ H ⟨Z, ρ, m, S, r, er, hr, ef, k⟩ => by
    rw [hf] at ef
    cases ef
    exact k m H σ Ext.refl hr er
theorem ps_brkD (hf : ∀ ρ S, f ρ S = some (.brk ρ S)) : PS X (.Break pos) (tS X f) :=
  PS.imp ps_break fun D σ H ⟨Z, ρ, m, S, r, er, hr, ef, k⟩ => by
    rw [hf] at ef
    cases ef
    exact k m H σ Ext.refl hr er
theorem ps_ctD (hf : ∀ ρ S, f ρ S = some (.ct ρ S)) : PS X (.Continue pos) (tS X f) :=
  PS.imp ps_continue fun D σ H ⟨Z, ρ, m, S, r, er, hr, ef, k⟩ => by
    rw [hf] at ef
    cases ef
    exact k m H σ Ext.refl hr er
/-- an error is not covered -/
theorem ps_raiseD (hf : ∀ ρ S R, f ρ S = some R → ∃ c p ρ' S', R = .exc c p ρ' S') : PS X st (tS X f) :=
  PS.imp ps_never fun D σ H ⟨Z, ρ, m, S, r, er, hr, ef, k⟩ => by
    obtain ⟨c, p, ρ', S', rfl⟩ := hf _ _ _ ef
    exact k
theorem ps_ifD {q : Env → Store → Out Bool} {A B : List Stmt} {c : Expr} (hq : PT X c (tQ X q)) (ha : PSs X A (tS X f)) (hb : PSs X B (tS X g)) {h : Env → Store → Option SR} (hf : ∀ ρ S, h ρ S = bndS ρ (q ρ S) fun t S => if t then f ρ S else g ρ S) : PS X (.If c A B pos) (tS X h) :=
  PS.imp (ps_if hq ha hb) fun D σ H ⟨Z, ρ, m, S, r, er, hr, ef, k⟩ => by
    rw [hf] at ef
    obtain ⟨t, S1, e1, ef⟩ := bndS_ok ef k
    refine ⟨Z, ρ, m, S, t, S1, er, hr, e1, fun m1 H1 x1 hr1 => ?_⟩
    cases t with
    | true => exact ⟨Z, ρ, m1, S1, r, er.mono x1.mono, hr1, ef, k.from x1⟩
    | false => exact ⟨Z, ρ, m1, S1, r, er.mono x1.mono, hr1, ef, k.from x1⟩
theorem pss_nilD (hf : ∀ ρ S, f ρ S = some (.nx ρ S)) : PSs X [] (tS X f) :=
  PSs.imp pss_nil fun D σ H ⟨Z, ρ, m, S, r, er, hr, ef, k⟩ => by
    rw [hf] at ef
    cases ef
    exact k m H σ Ext.refl hr er
theorem pss_consD (h1 : PS X st (tS X f)) (h2 : PSs X sts (tS X g)) {h : Env → Store → Option SR} (hf : ∀ ρ S, h ρ S = match f ρ S with
    | some (.nx ρ' S') => g ρ' S'
    | r => r) : PSs X (st :: sts) (tS X h) :=
  PSs.imp (pss_cons h1 h2) fun D σ H ⟨Z, ρ, m, S, r, er, hr, ef, k⟩ => by
    rw [hf] at ef
    cases q : f ρ S with
    | none => rw [q] at ef; cases ef
    | some R =>
      rw [q] at ef
      refine ⟨Z, ρ, m, S, R, er, hr, q, ?_⟩
      cases R with
      | nx ρ' S' => exact fun m1 H1 σ1 x1 hr1 er1 => ⟨Z, ρ', m1, S', r, er1, hr1, ef, k.from x1⟩
      | ret d S' => cases ef; exact k
      | brk ρ' S' => cases ef; exact k
      | ct ρ' S' => cases ef; exact k
      | exc c p ρ' S' => cases ef; exact k
/-! ### while -/
theorem ps_whlD {q : Env → Store → Out Bool} {b : Env → Store → Option SR} {c : Expr} {B : List Stmt} (hx : X.xe = fun _ _ => False) (hq : PT X c (tQ X q)) (hb : PSs X B (tS X b)) {N : Nat} (hf : ∀ ρ S, f ρ S = loopW q b N ρ S) : PS X (.While c B [] pos) (tS X f) :=
  PS.imp (ps_while (by rw [hx]; exact PassesOwn.never) hq hb) fun D σ H ⟨Z, ρ, m, S, r, er, hr, ef, k⟩ => by
    rw [hf] at ef
    refine ⟨fun n σ' H' => ∃ ρ' m' S', Ext m S H m' S' H' ∧ HRX X Z m' S' H' ∧ ER X H' (LL Z m' S') m' σ' ρ' ∧ loopW q b n ρ' S' = some r, ⟨N, ρ, m, S, Ext.refl, hr, er, ef⟩, ?_⟩
    rintro n σ1 H1 ⟨ρ1, m1, S1, x1, hr1, er1, e1⟩
    cases n with
    | zero => cases e1
    | succ n =>
      have e1 : (bndS ρ1 (q ρ1 S1) fun b' S2 => if b' then match b ρ1 S2 with
        | some (.nx ρ' S') => loopW q b n ρ' S'
        | some (.ct ρ' S') => loopW q b n ρ' S'
        | some (.brk ρ' S') => some (.nx ρ' S')
        | r => r
        else some (.nx ρ1 S2)) = some r := e1
      obtain ⟨t, S2, e2, e3⟩ := bndS_ok e1 (k.from x1)
      refine ⟨Z, ρ1, m1, S1, t, S2, er1, hr1, e2, fun m2 H2 x2 hr2 => ?_⟩
      have x12 := x1.trans x2
      cases t with
      | false =>
        cases (show some (SR.nx ρ1 S2) = some r from e3)
        exact k m2 H2 σ1 x12 hr2 (er1.mono x2.mono)
      | true =>
        have e3 : (match b ρ1 S2 with
          | some (.nx ρ' S') => loopW q b n ρ' S'
          | some (.ct ρ' S') => loopW q b n ρ' S'
          | some (.brk ρ' S') => some (.nx ρ' S')
          | r => r) = some r := e3
        refine ⟨fun σ' H' => ∃ ρ' m' S', Ext m S H m' S' H' ∧ HRX X Z m' S' H' ∧ ER X H' (LL Z m' S') m' σ' ρ' ∧ loopW q b n ρ' S' = some r, fun σ' H' h => ⟨n, Nat.lt_succ_self n, h⟩, ?_⟩
        cases e4 : b ρ1 S2 with
        | none => rw [e4] at e3; cases e3
        | some R =>
          rw [e4] at e3
          refine ⟨Z, ρ1, m2, S2, R, er1.mono x2.mono, hr2, e4, ?_⟩
          cases R with
          | nx ρ' S' => exact fun m3 H3 σ3 x3 hr3 er3 => ⟨ρ', m3, S', x12.trans x3, hr3, er3, e3⟩
          | ct ρ' S' => exact fun m3 H3 σ3 x3 hr3 er3 => ⟨ρ', m3, S', x12.trans x3, hr3, er3, e3⟩
          | brk ρ' S' =>
            cases e3
            exact fun m3 H3 σ3 x3 hr3 er3 => k m3 H3 σ3 (x12.trans x3) hr3 er3
          | ret d S' =>
            cases e3
            exact fun m3 H3 v x3 hr3 r3 => k m3 H3 v (x12.trans x3) hr3 r3
          | exc c p ρ' S' => cases e3; exact k
/-! ### for -/
theorem HR.noL {P : Program} {w : World} {K : PySem.W.Frag} (h : HR P w K Z m S H) : ∀ a, H a = none → ¬ LL Z m S a := fun a ha => h.noLL ha
/-- a turn's own thing is laid -/
theorem turn_ext {P : Program} {w : World} {K : PySem.W.Frag} (h : HR P w K Z m S H) (e : H1 = H ∨ ∃ T o, H T = none ∧ H1 = upd H T o) : Ext m S H m S H1 ∧ HR P w K Z m S H1 := by
  rcases e with rfl | ⟨T, o, hT, rfl⟩
  · exact ⟨Ext.refl, h⟩
  · exact ⟨h.ext hT o, h.fresh hT o⟩
theorem ps_forD {tg iter : Expr} {B : List Stmt} {w : Env → Store → Out (List D)} {t : D → Env → Store → Option SR} {b : Env → Store → Option SR} (hx : X.xe = fun _ _ => False) (hc : X.calm = true) (hi : PI X tg iter (tI X w)) (hg : PG X tg (gD X t)) (hb : PSs X B (tS X b))
    (hs : ∀ x, foldedSetIterable iter X.env x = pure x) (ht : ∀ d ρ S R, t d ρ S = some R → (∃ ρ' S', R = .nx ρ' S') ∨ ∃ c p ρ' S', R = .exc c p ρ' S') (hf : ∀ ρ S, f ρ S = bndS ρ (w ρ S) fun xs S => loopF t b xs ρ S) : PS X (.For tg iter B [] pos) (tS X f) :=
  PS.imp (ps_for (by rw [hx]; exact PassesOwn.never) hc hi hg hb hs) fun D σ H ⟨Z, ρ, m, S, r, er, hr, ef, k⟩ => by
    rw [hf] at ef
    obtain ⟨xs, S1, e1, ef⟩ := bndS_ok ef k
    refine ⟨Z, ρ, m, S, xs, S1, er, hr, e1, fun m1 H1 J x1 hr1 wd => ?_⟩
    have k1 := k.from x1
    refine ⟨fun i n σ' H' => n = xs.length - i ∧ i ≤ xs.length ∧ ∃ ρ' m' S', Ext m1 S1 H1 m' S' H' ∧ HRX X Z m' S' H' ∧ ER X H' (LL Z m' S') m' σ' ρ' ∧ loopF t b (xs.drop i) ρ' S' = some r,
      ⟨xs.length, by simp, Nat.zero_le _, ρ, m1, S1, Ext.refl, hr1, er.mono x1.mono, ef⟩, ?_⟩
    rintro i n σ2 H2 ⟨rfl, hi, ρ2, m2, S2, x2, hr2, er2, e2⟩
    by_cases hlt : i < xs.length
    · rw [List.drop_eq_getElem_cons hlt] at e2
      have e2 : (match t xs[i] ρ2 S2 with
        | some (.nx ρ1 S1) => match b ρ1 S1 with
          | some (.nx ρ' S') => loopF t b (xs.drop (i + 1)) ρ' S'
          | some (.ct ρ' S') => loopF t b (xs.drop (i + 1)) ρ' S'
          | some (.brk ρ' S') => some (.nx ρ' S')
          | r => r
        | r => r) = some r := e2
      refine .inr ⟨wd.go i H2 _ m2 hlt x2.mono, fun σ' H' => ∃ ρ' m' S', Ext m1 S1 H1 m' S' H' ∧ HRX X Z m' S' H' ∧ ER X H' (LL Z m' S') m' σ' ρ' ∧ loopF t b (xs.drop (i + 1)) ρ' S' = some r,
        fun σ' H' h => ⟨xs.length - (i + 1), by omega, rfl, hlt, h⟩, fun x H3 y => ?_⟩
      obtain ⟨h3, d, hd, rd⟩ := wd.yld i H2 _ m2 x H3 hlt x2.mono hr2.noL y
      rw [List.getElem?_eq_getElem hlt] at hd
      cases hd
      obtain ⟨x3, hr3⟩ := turn_ext hr2 h3
      have x23 := x2.trans x3
      cases e4 : t xs[i] ρ2 S2 with
      | none => rw [e4] at e2; cases e2
      | some R =>
        rw [e4] at e2
        rcases ht _ _ _ _ e4 with ⟨ρ4, S4, rfl⟩ | ⟨c, p, ρ4, S4, rfl⟩
        · have e2 : (match b ρ4 S4 with
            | some (.nx ρ' S') => loopF t b (xs.drop (i + 1)) ρ' S'
            | some (.ct ρ' S') => loopF t b (xs.drop (i + 1)) ρ' S'
            | some (.brk ρ' S') => some (.nx ρ' S')
            | r => r) = some r := e2
          refine ⟨Z, ρ2, m2, S2, xs[i], ρ4, S4, er2.mono x3.mono, hr3, rd, e4, fun m5 H5 σ5 x5 hr5 er5 => ?_⟩
          have x25 := x23.trans x5
          cases e6 : b ρ4 S4 with
          | none => rw [e6] at e2; cases e2
          | some R =>
            rw [e6] at e2
            refine ⟨Z, ρ4, m5, S4, R, er5, hr5, e6, ?_⟩
            cases R with
            | nx ρ' S' => exact fun m6 H6 σ6 x6 hr6 er6 => ⟨ρ', m6, S', x25.trans x6, hr6, er6, e2⟩
            | ct ρ' S' => exact fun m6 H6 σ6 x6 hr6 er6 => ⟨ρ', m6, S', x25.trans x6, hr6, er6, e2⟩
            | brk ρ' S' =>
              cases e2
              exact fun m6 H6 σ6 x6 hr6 er6 => k1 m6 H6 σ6 (x25.trans x6) hr6 er6
            | ret d S' =>
              cases e2
              exact fun m6 H6 v x6 hr6 r6 => k1 m6 H6 v (x25.trans x6) hr6 r6
            | exc c p ρ' S' => cases e2; exact k
        · cases e2; exact k.elim
    · have hn : i = xs.length := by omega
      subst hn
      rw [List.drop_length] at e2
      cases (show some (SR.nx ρ2 S2) = some r from e2)
      exact .inl ⟨wd.stop H2 _ m2 x2.mono, k1 m2 H2 σ2 x2 hr2 er2⟩
end
end KL
end
section
set_option Elab.async false
set_option linter.all false
set_option maxRecDepth 100000
set_option maxHeartbeats 2000000
set_option autoImplicit false
/-! KLMut: changes of the store; methods. -/
namespace KL
open PySem PySem.Spec PyProof.Rows L2

section
variable {P : Program} {w : World} {K : PySem.W.Frag} {Z : Addr → Prop} {m : List Addr} {S : Store} {H : Hp} {n : Nat} {o so : SO} {a : Addr}
theorem Lv.of_set (hl : so.live = true → o.live = true) (h1 : S[n]? = some o) {b : Addr} (h : Lv m (S.set n so) b) : Lv m S b := by
  obtain ⟨i, q, e1, e2, e3⟩ := h
  by_cases hi : n = i
  · subst hi
    rw [List.getElem?_set_self (List.getElem?_eq_some_iff.mp h1).1] at e1
    cases e1
    exact ⟨n, o, h1, hl e2, e3⟩
  · rw [List.getElem?_set_ne hi] at e1
    exact ⟨i, q, e1, e2, e3⟩
theorem Ext.set (hl : so.live = true → o.live = true) (h1 : S[n]? = some o) (ho : o.live = true) (h2 : m[n]? = some a) (u : HO) : Ext m S H m (S.set n so) (upd H a u) :=
  ⟨⟨[], by simp⟩, fun b v hb nb => by
    rw [upd_ne (show b ≠ a from fun e => nb ⟨n, o, h1, ho, by rw [e]; exact h2⟩)]; exact hb, fun b v hb nb z => nb (z.of_set hl h1)⟩
theorem HR.set (h : HR P w K Z m S H) (h1 : S[n]? = some o) (ho : o.live = true) (h2 : m[n]? = some a) {u : HO} (r : ∀ L', Mono H (LL Z m S) m (upd H a u) L' m → SRep P w K (upd H a u) L' m a so) : HR P w K Z m (S.set n so) (upd H a u) := by
  have ham : a ∈ m := List.mem_of_getElem? h2
  have x := (Ext.set (H := H) (so := so) (u := u) (fun _ => ho) h1 ho h2).mono (Z := Z)
  refine ⟨by rw [List.length_set]; exact h.len, h.nd, fun b hb => ?_, fun b hb => ⟨?_, (h.z b hb).2⟩, fun i q b e1 e2 e3 => ?_⟩
  · by_cases e : b = a
    · rw [e, upd_same]; exact fun z => nomatch z
    · rw [upd_ne e]; exact h.dom b hb
  · have e : b ≠ a := fun e => (h.z b hb).2 (by rw [e]; exact ham)
    rw [upd_ne e]; exact (h.z b hb).1
  · by_cases hi : n = i
    · subst hi
      rw [List.getElem?_set_self (List.getElem?_eq_some_iff.mp h1).1] at e1
      cases e1
      rw [h2] at e3; cases e3
      exact r _ x
    · rw [List.getElem?_set_ne hi] at e1
      have e : b ≠ a := fun e => hi (by
        rw [e] at e3
        obtain ⟨l1, g1⟩ := List.getElem?_eq_some_iff.mp h2
        obtain ⟨l2, g2⟩ := List.getElem?_eq_some_iff.mp e3
        exact (List.getElem_inj h.nd).mp (g1.trans g2.symm))
      exact (h.obj i q b e1 e2 e3).mono x (upd_ne e)
/-- a slot is given up: its thing is a datum now -/
theorem Ext.kill (h1 : S[n]? = some o) (ho : o.live = true) : Ext m S H m (S.set n .dead) H :=
  ⟨⟨[], by simp⟩, fun b v hb nb => hb, fun b v hb nb z => nb (z.of_set (fun _ => ho) h1)⟩
theorem HR.kill (h : HR P w K Z m S H) (h1 : S[n]? = some o) (ho : o.live = true) : HR P w K Z m (S.set n .dead) H := by
  have x := (Ext.kill (m := m) (H := H) h1 ho).mono (Z := Z)
  refine ⟨by rw [List.length_set]; exact h.len, h.nd, h.dom, h.z, fun i q b e1 e2 e3 => ?_⟩
  by_cases hi : n = i
  · subst hi
    rw [List.getElem?_set_self (List.getElem?_eq_some_iff.mp h1).1] at e1
    cases e1
    cases e2
  · rw [List.getElem?_set_ne hi] at e1
    exact (h.obj i q b e1 e2 e3).mono x rfl
theorem HR.killed (h : HR P w K Z m S H) (h1 : S[n]? = some o) (h2 : m[n]? = some a) : ¬ LL Z m (S.set n .dead) a := by
  rintro (z | ⟨i, q, e1, e2, e3⟩)
  · exact (h.z a z).2 (List.mem_of_getElem? h2)
  · have hi : n = i := by
      obtain ⟨l1, g1⟩ := List.getElem?_eq_some_iff.mp h2
      obtain ⟨l2, g2⟩ := List.getElem?_eq_some_iff.mp e3
      exact (List.getElem_inj h.nd).mp (g1.trans g2.symm)
    subst hi
    rw [List.getElem?_set_self (List.getElem?_eq_some_iff.mp h1).1] at e1
    cases e1
    cases e2
end
section
variable {X : Cx} {Z : Addr → Prop} {m : List Addr} {S : Store} {H : Hp} {σ : L2.St} {ρ : Env} {a b f : Env → Store → Out D} {e eo : Expr} {apos pos : Pos}
/-- conditions of a method's call on a name or a field -/
structure MC (X : Cx) (o : Expr) (name : Str) (apos pos : Pos) (es : List Expr) : Prop where
  base : attributeBase o name X.env (eval o X.env) = eval o X.env
  line : (apos.endLine == pos.line) = true
  few : ((backTo pos (starEach es X.env)).all (fun x => !x.1) && (backToKw pos (keywordEach [] X.env)).all (fun x => x.1.isSome)
      && decide (es.length + ([] : List Keyword).length + (if ([] : List Keyword).isEmpty then 0 else 1) < 30)) = true
def notCall : Expr → Bool
  | .Call _ _ _ _ => false
  | _ => true
theorem base_of {o : Expr} {x : Str} {env : PySem.Env} {t : Sem Value} (h : notCall o = true) : attributeBase o x env t = t := by
  cases o <;> first | rfl | cases h
theorem mc_of {o : Expr} {name : Str} {es : List Expr} (h : notCall o = true) (hl : (apos.endLine == pos.line) = true) (hs : noStars es = true) (hn : es.length < 10) : MC X o name apos pos es := by
  refine ⟨base_of h, hl, ?_⟩
  rw [(back_plain hs).2]
  simp [keywordEach, backToKw]
  omega
theorem appD_ok {x y d : D} {S S' : Store} (h : appD x y S = some (.ok d S')) : ∃ n xs, x = .ref n ∧ S[n]? = some (.lst xs) ∧ xs.length < lineN ∧ d = .non ∧ S' = S.set n (.lst (xs ++ [y])) := by
  cases x <;> first | (cases h; done) | skip
  rename_i n
  have h : (match S[n]? with
    | some (.lst xs) => if xs.length < lineN then ok D.non (S.set n (.lst (xs ++ [y]))) else none
    | _ => none) = some (.ok d S') := h
  cases q2 : S[n]? with
  | none => rw [q2] at h; cases h
  | some so =>
    rw [q2] at h
    cases so with
    | lst xs =>
      have h : (if xs.length < lineN then ok D.non (S.set n (.lst (xs ++ [y]))) else none) = some (.ok d S') := h
      by_cases hl : xs.length < lineN
      · rw [if_pos hl] at h
        obtain ⟨rfl, rfl⟩ := ok_ok h
        exact ⟨n, xs, rfl, q2, hl, rfl, rfl⟩
      · rw [if_neg hl] at h; cases h
    | _ => cases h
theorem isLstRef_ok {x : D} {S : Store} (h : isLstRef x S = true) : ∃ n xs, x = .ref n ∧ S[n]? = some (.lst xs) := by
  cases x <;> first | (cases h; done) | skip
  rename_i n
  have h : (match S[n]? with
    | some (.lst _) => true
    | _ => false) = true := h
  cases q2 : S[n]? with
  | none => rw [q2] at h; cases h
  | some so =>
    rw [q2] at h
    cases so <;> first | exact ⟨n, _, rfl, q2⟩ | cases h
theorem ite_ok {c : Bool} {α : Type} {r : Out α} {x : Res α} (h : (if c = true then r else none) = some x) : c = true ∧ r = some x := by
  cases c with
  | true => exact ⟨rfl, h⟩
  | false => cases h
theorem pe_appendD (mc : MC X eo "append" apos pos [e]) (ho : PE X eo (tD X a)) (he : PE X e (tD X b)) (hn : notStar e = true) (hf : ∀ ρ S, f ρ S = bnd (a ρ S) fun x S => if isLstRef x S then bnd (b ρ S) fun y S => appD x y S else none) : PE X (.Call (.Attribute eo "append" apos) [e] [] pos) (tD X f) := by
  refine PE.imp (pe_bm F.plainAttrs_list F.slot_list_append F.type_list_append mt_append ho (pa_cons he pa_nil (star_cons hn)) mc.base mc.few mc.line (star_cons hn) rfl) fun σ H Q ⟨Z, ρ, m, S, d, S', er, hr, ef, k⟩ => ?_
  rw [hf] at ef
  obtain ⟨x, S1, e1, ef⟩ := bnd_ok ef
  obtain ⟨c, ef⟩ := ite_ok ef
  obtain ⟨y, S2, e2, ef⟩ := bnd_ok ef
  obtain ⟨n, xs0, rfl, hn1⟩ := isLstRef_ok c
  refine ⟨Z, ρ, m, S, _, S1, er, hr, e1, fun m1 H1 v x1 hr1 r1 => ?_⟩
  obtain ⟨q, rfl, r1⟩ := r1
  obtain ⟨vs0, g1, _⟩ := hr1.obj n _ q hn1 rfl r1
  refine ⟨.inl ⟨rfl, vs0, .inl (.inl g1)⟩, Z, ρ, m1, S1, y, S2, er.mono x1.mono, hr1, e2, fun m2 H2 w x2 hr2 r2 => ?_⟩
  obtain ⟨n', xs, en, q2, hl, rfl, rfl⟩ := appD_ok ef
  cases en
  have r3 : m2[n]? = some q := x2.mono (Z := Z) |>.pre n q r1
  obtain ⟨vs, g2, g3⟩ := hr2.obj n _ q q2 rfl r3
  refine ⟨q, vs, w, rfl, rfl, g2, by rw [← g3.length, ← lineN_eq]; exact hl, ?_⟩
  have x3 := Ext.set (H := H2) (so := .lst (xs ++ [y])) (u := .lst (vs ++ [w])) (fun _ => rfl) q2 rfl r3
  exact k m2 _ .non (x1.trans (x2.trans x3)) (HR.set hr2 q2 rfl r3 fun L' y => ⟨_, upd_same, (g3.mono y).snoc (r2.mono y)⟩) rfl
theorem pe_popD (mc : MC X eo "pop" apos pos []) (ho : PE X eo (tD X a)) (hf : ∀ ρ S, f ρ S = bnd (a ρ S) fun x S => popD x S) : PE X (.Call (.Attribute eo "pop" apos) [] [] pos) (tD X f) := by
  refine PE.imp (pe_bm0 F.plainAttrs_list F.slot_list_pop F.type_list_pop mt_pop ho mc.base mc.line) fun σ H Q ⟨Z, ρ, m, S, d, S', er, hr, ef, k⟩ => ?_
  rw [hf] at ef
  obtain ⟨x, S1, e1, ef⟩ := bnd_ok ef
  refine ⟨Z, ρ, m, S, x, S1, er, hr, e1, fun m1 H1 v x1 hr1 r1 => ?_⟩
  cases x <;> first | (cases ef; done) | skip
  rename_i n
  have ef : (match S1[n]? with
      | some (.lst xs) => match xs.getLast? with
        | some y => ok y (S1.set n (.lst xs.dropLast))
        | none => none
      | _ => none) = some (.ok d S') := ef
  cases q2 : S1[n]? with
  | none => rw [q2] at ef; cases ef
  | some so =>
    rw [q2] at ef
    cases so with
    | lst xs =>
      have ef : (match xs.getLast? with
        | some y => ok y (S1.set n (.lst xs.dropLast))
        | none => none) = some (.ok d S') := ef
      cases q3 : xs.getLast? with
      | none => rw [q3] at ef; cases ef
      | some y =>
        rw [q3] at ef
        obtain ⟨rfl, rfl⟩ := ok_ok ef
        obtain ⟨q, rfl, r3⟩ := r1
        obtain ⟨vs, g2, g3⟩ := hr1.obj n _ q q2 rfl r3
        rw [List.getLast?_eq_getElem?] at q3
        obtain ⟨w, g4, g5⟩ := g3.at q3
        rw [g3.length] at g4
        refine ⟨.inl ⟨rfl, vs, .inl (.inl g2)⟩, q, vs, w, rfl, rfl, g2, g4, ?_⟩
        have x3 := Ext.set (H := H1) (so := .lst xs.dropLast) (u := .lst vs.dropLast) (fun _ => rfl) q2 rfl r3
        exact k m1 _ w (x1.trans x3) (HR.set hr1 q2 rfl r3 fun L' y => ⟨_, upd_same, (g3.mono y).dropLast⟩) (g5.mono x3.mono)
    | _ => cases ef
/-- a store's thing is taken as a datum -/
theorem pe_frzD (ho : PE X e (tD X a)) (hf : ∀ ρ S, f ρ S = bnd (a ρ S) fun x S => frzD x S) : PE X e (tD X f) := by
  refine PE.imp ho fun σ H Q ⟨Z, ρ, m, S, d, S', er, hr, ef, k⟩ => ?_
  rw [hf] at ef
  obtain ⟨x, S1, e1, ef⟩ := bnd_ok ef
  refine ⟨Z, ρ, m, S, x, S1, er, hr, e1, fun m1 H1 v x1 hr1 r1 => ?_⟩
  by_cases hx : ∃ n, x = .ref n
  case neg =>
    have e2 : x = d ∧ S1 = S' := by
      cases x <;> first
        | exact (hx ⟨_, rfl⟩).elim
        | exact ok_ok ef
    obtain ⟨rfl, rfl⟩ := e2
    exact k m1 H1 v x1 hr1 r1
  obtain ⟨n, rfl⟩ := hx
  have ef : (match S1[n]? with
      | some (.lst xs) => ok (D.lst xs) (S1.set n .dead)
      | some (.dS ks vs) => ok (D.dS ks vs) (S1.set n .dead)
      | some (.dT ks vs) => ok (D.dT ks vs) (S1.set n .dead)
      | _ => none) = some (.ok d S') := ef
  obtain ⟨q, rfl, r3⟩ := r1
  cases q2 : S1[n]? with
  | none => rw [q2] at ef; cases ef
  | some so =>
    rw [q2] at ef
    cases so with
    | lst xs =>
      obtain ⟨rfl, rfl⟩ := ok_ok ef
      obtain ⟨vs, g2, g3⟩ := hr1.obj n _ q q2 rfl r3
      have x3 := Ext.kill (m := m1) (H := H1) q2 rfl
      exact k m1 H1 _ (x1.trans x3) (hr1.kill q2 rfl) ⟨q, vs, rfl, ⟨g2, hr1.killed q2 r3⟩, g3.mono x3.mono⟩
    | dS ks ds =>
      obtain ⟨rfl, rfl⟩ := ok_ok ef
      obtain ⟨vs, g2, g3, _, g4⟩ := hr1.obj n _ q q2 rfl r3
      have x3 := Ext.kill (m := m1) (H := H1) q2 rfl
      exact k m1 H1 _ (x1.trans x3) (hr1.kill q2 rfl) ⟨q, vs, rfl, g2, hr1.killed q2 r3, g3, g4.mono x3.mono⟩
    | dT ks ds =>
      obtain ⟨rfl, rfl⟩ := ok_ok ef
      obtain ⟨xs, vs, g2, g3, g4, g5⟩ := hr1.obj n _ q q2 rfl r3
      have x3 := Ext.kill (m := m1) (H := H1) q2 rfl
      exact k m1 H1 _ (x1.trans x3) (hr1.kill q2 rfl) ⟨q, xs, vs, rfl, g2, hr1.killed q2 r3, g3.mono x3.mono, g4.mono x3.mono, g5⟩
    | ins c fs => cases ef
    | dead => cases ef
end
end KL
end
section
set_option Elab.async false
set_option linter.all false
set_option maxRecDepth 100000
set_option maxHeartbeats 2000000
set_option autoImplicit false
/-! KLMut2: o[k] = v; get; displays; swapped stores. -/
namespace KL
open PySem PySem.Spec PyProof.Rows L2

section
variable {P : Program} {w : World} {K : PySem.W.Frag} {H : Hp} {L : Addr → Prop} {m : List Addr}
theorem putAt_set {kk : KK} {v u : Value} {b : Addr} : ∀ {xs : List (KK × Addr × Value)} {j : Nat}, (xs.map (·.1)).Nodup → xs[j]? = some (kk, b, u) → xs.map (putAt kk v) = xs.set j (kk, b, v)
  | [], j, _, h => by simp at h
  | (k1, b1, u1) :: xs, 0, hn, h => by
    have h : (k1, b1, u1) = (kk, b, u) := by simpa using h
    cases h
    have hn : ¬ kk ∈ xs.map (·.1) ∧ (xs.map (·.1)).Nodup := by
      rw [List.map_cons, List.nodup_cons] at hn; exact hn
    have e : xs.map (putAt kk v) = xs := by
      rw [List.map_congr_left (g := id) fun y hy => ?_, List.map_id]
      have : y.1 ≠ kk := fun e => hn.1 (e ▸ List.mem_map.mpr ⟨y, hy, rfl⟩)
      simp [putAt, this]
    show putAt kk v (kk, b, u) :: xs.map (putAt kk v) = (kk, b, v) :: xs
    rw [e]; simp [putAt]
  | (k1, b1, u1) :: xs, j + 1, hn, h => by
    have h : xs[j]? = some (kk, b, u) := by simpa using h
    have hn : ¬ k1 ∈ xs.map (·.1) ∧ (xs.map (·.1)).Nodup := by
      rw [List.map_cons, List.nodup_cons] at hn; exact hn
    have hk : k1 ≠ kk := fun e => hn.1 (by rw [e]; exact List.mem_map.mpr ⟨_, List.mem_of_getElem? h, rfl⟩)
    show putAt kk v (k1, b1, u1) :: xs.map (putAt kk v) = (k1, b1, u1) :: xs.set j (kk, b, v)
    rw [putAt_set hn.2 h]; simp [putAt, hk]
theorem KReps.setv {kk : KK} {v u : Value} {b : Addr} : ∀ {ks : List D} {xs : List (KK × Addr × Value)} {j : Nat}, KReps P w K H L m ks xs → xs[j]? = some (kk, b, u) → KReps P w K H L m ks (xs.set j (kk, b, v))
  | [], xs, j, h, e => by rw [show xs = [] from h] at e; simp at e
  | k :: ks, _, 0, h, e => by
    obtain ⟨k1, b1, u1, ys, rfl, h1, h2, h3, h4⟩ := h
    have e : (k1, b1, u1) = (kk, b, u) := by simpa using e
    cases e
    exact ⟨kk, b, v, ys, rfl, h1, h2, h3, h4⟩
  | k :: ks, _, j + 1, h, e => by
    obtain ⟨k1, b1, u1, ys, rfl, h1, h2, h3, h4⟩ := h
    exact ⟨k1, b1, u1, ys.set j (kk, b, v), rfl, h1, h2, h3, h4.setv (by simpa using e)⟩
theorem KReps.snoc {kk : KK} {v : Value} {b : Addr} {d : D} (h1 : nk d = some kk) (h2 : kk.dep ≤ 6) (h3 : Rep P w K H L m d (.ref b)) : ∀ {ks : List D} {xs : List (KK × Addr × Value)}, KReps P w K H L m ks xs → KReps P w K H L m (ks ++ [d]) (xs ++ [(kk, b, v)])
  | [], xs, h => by rw [show xs = [] from h]; exact ⟨kk, b, v, [], rfl, h1, h2, h3, rfl⟩
  | k :: ks, _, h => by
    obtain ⟨k1, b1, u1, ys, rfl, g1, g2, g3, g4⟩ := h
    exact ⟨k1, b1, u1, ys ++ [(kk, b, v)], rfl, g1, g2, g3, g4.snoc h1 h2 h3⟩
theorem KReps.len : ∀ {ks : List D} {xs : List (KK × Addr × Value)}, KReps P w K H L m ks xs → ks.length = xs.length
  | [], xs, h => by rw [show xs = [] from h]; rfl
  | k :: ks, _, h => by
    obtain ⟨k1, b1, u1, ys, rfl, g1, g2, g3, g4⟩ := h
    simp [g4.len]
/-! ### putS -/
theorem kv_put {ks : List Txt} {vs : List V} {k : Txt} {v : V} (hl : ks.length = vs.length) (hn : ks.Nodup) : match keyIxS k ks with
    | some j => putK (kvZip ks vs) (Sum.inr (strV k)) v = kvZip ks (vs.set j v)
    | none => putK (kvZip ks vs) (Sum.inr (strV k)) v = kvZip (ks ++ [k]) (vs ++ [v]) := by
  have key : ∀ {ks : List Txt} {vs : List V}, ks.length = vs.length → ks.Nodup → match keyIxS k ks with
    | some j => ((kvZip ks vs).any fun kv => decide (kv.1 = Sum.inr (strV k))) = true ∧ ((kvZip ks vs).map fun kv => if kv.1 = Sum.inr (strV k) then (kv.1, v) else kv) = kvZip ks (vs.set j v)
    | none => k ∉ ks ∧ ((kvZip ks vs).any fun kv => decide (kv.1 = Sum.inr (strV k))) = false ∧ kvZip ks vs ++ [(Sum.inr (strV k), v)] = kvZip (ks ++ [k]) (vs ++ [v]) := by
    intro ks
    induction ks with
    | nil =>
      intro vs hl hn
      cases vs with
      | nil => exact ⟨by simp, rfl, rfl⟩
      | cons _ _ => simp at hl
    | cons c cs ih =>
      intro vs hl hn
      cases vs with
      | nil => simp at hl
      | cons y ys =>
        have hn := List.nodup_cons.mp hn
        have e : kvZip (c :: cs) (y :: ys) = ((Sum.inr (strV c) : Key), y) :: kvZip cs ys := rfl
        have ih := ih (vs := ys) (by simpa using hl) hn.2
        unfold keyIxS
        by_cases hc : c = k
        · subst hc
          rw [if_pos rfl]
          refine ⟨by rw [e]; simp, ?_⟩
          rw [e]
          have no : ∀ p ∈ kvZip cs ys, p.1 ≠ (Sum.inr (strV c) : Key) := by
            intro p hp z
            cases q : keyIxS c cs with
            | none =>
              rw [q] at ih
              obtain ⟨_, i2, _⟩ := ih
              rw [List.any_eq_false] at i2
              exact i2 p hp (decide_eq_true z)
            | some j =>
              have mem : ∀ {cs : List Txt} {j : Nat}, keyIxS c cs = some j → c ∈ cs := by
                intro cs
                induction cs with
                | nil => intro j h; cases h
                | cons d ds ih2 =>
                  intro j h
                  unfold keyIxS at h
                  by_cases hd : d = c
                  · rw [hd]; exact List.mem_cons_self
                  · rw [if_neg hd] at h
                    obtain ⟨j', h', _⟩ := Option.map_eq_some_iff.mp h
                    exact List.mem_cons_of_mem _ (ih2 h')
              exact hn.1 (mem q)
          have e2 : ((kvZip cs ys).map fun kv => if kv.1 = (Sum.inr (strV c) : Key) then (kv.1, v) else kv) = kvZip cs ys := by
            rw [List.map_congr_left (g := id) fun p hp => by rw [if_neg (no p hp)]; rfl, List.map_id]
          rw [List.map_cons, e2, if_pos rfl]; rfl
        · rw [if_neg hc]
          have hne : ¬ ((Sum.inr (strV c) : Key) = Sum.inr (strV k)) := fun z => hc (strV_inj (Sum.inr.inj z))
          cases q : keyIxS k cs with
          | none =>
            rw [q] at ih
            obtain ⟨i1, i2, i3⟩ := ih
            refine ⟨fun z => (List.mem_cons.mp z).elim (fun z => hc z.symm) i1, ?_, ?_⟩
            · rw [e, List.any_cons, i2, decide_eq_false hne]; rfl
            · rw [e, List.cons_append, i3]; rfl
          | some j =>
            rw [q] at ih
            obtain ⟨i1, i2⟩ := ih
            refine ⟨by rw [e, List.any_cons, i1, Bool.or_true], ?_⟩
            rw [e, List.map_cons, i2, if_neg hne]; rfl
  have := key hl hn
  unfold putK
  cases q : keyIxS k ks with
  | none =>
    rw [q] at this
    obtain ⟨_, i2, i3⟩ := this
    rw [i2]; simp only [Bool.false_eq_true, if_false]
    exact i3
  | some j =>
    rw [q] at this
    obtain ⟨i1, i2⟩ := this
    rw [i1]; simp only [if_true]
    exact i2
theorem keyIxS_none {k : Txt} : ∀ {ks : List Txt}, keyIxS k ks = none → k ∉ ks
  | [], _ => by simp
  | c :: cs, h => by
    unfold keyIxS at h
    by_cases hc : c = k
    · rw [if_pos hc] at h; cases h
    · rw [if_neg hc] at h
      have h' : keyIxS k cs = none := by
        cases q : keyIxS k cs with
        | none => rfl
        | some j => rw [q] at h; cases h
      exact fun z => (List.mem_cons.mp z).elim (fun z => hc z.symm) (keyIxS_none h')
/-- a text key put in -/
theorem putS_rep {ks : List Txt} {ds : List D} {vs : List V} {k : Txt} {d : D} {v : V} (hl : ks.length = vs.length) (hn : ks.Nodup) (h : Reps P w K H L m ds vs) (r : Rep P w K H L m d v) :
    ∃ vs', putK (kvZip ks vs) (Sum.inr (strV k)) v = kvZip (putS ks ds k d).1 vs' ∧ (putS ks ds k d).1.length = vs'.length ∧ (putS ks ds k d).1.Nodup ∧ Reps P w K H L m (putS ks ds k d).2 vs' := by
  have e := kv_put (k := k) (v := v) hl hn
  unfold putS
  cases q : keyIxS k ks with
  | none =>
    rw [q] at e
    refine ⟨vs ++ [v], e, by simp [hl], ?_, h.snoc r⟩
    rw [List.nodup_append]
    refine ⟨hn, by simp, fun a ha b hb => ?_⟩
    rw [List.mem_singleton] at hb
    rw [hb]
    exact fun z => keyIxS_none q (z ▸ ha)
  | some j =>
    rw [q] at e
    exact ⟨vs.set j v, e, by rw [List.length_set]; exact hl, hn, h.set j r⟩
end
section
variable {X : Cx} {Z : Addr → Prop} {m : List Addr} {S : Store} {H : Hp} {σ : L2.St} {ρ : Env}
theorem setItemD_ref {n : Nat} {kd d : D} : setItemD (.ref n) kd d S = (match S[n]? with
    | some (.lst xs) => match kd with
      | .int i => match ixOf xs.length i with
        | some j => some (S.set n (.lst (xs.set j d)))
        | none => none
      | _ => none
    | some (.dS ks vs) => match kd with
      | .str s => if ks.length < lineN then some (S.set n (.dS (putS ks vs s d).1 (putS ks vs s d).2)) else none
      | _ => none
    | some (.dT ks vs) => if isKey kd && decide (ks.length < lineN) then match putT ks vs kd d with
        | some (ks', vs') => some (S.set n (.dT ks' vs'))
        | none => none
      else none
    | _ => none) := rfl
def tSetD (X : Cx) : TSet := fun o i v H Q => ∃ Z m S od kd d S', HRX X Z m S H ∧ RP X H (LL Z m S) m od o ∧ RP X H (LL Z m S) m kd i ∧ RP X H (LL Z m S) m d v ∧ setItemD od kd d S = some S' ∧ ∀ m' H', Ext m S H m' S' H' → HRX X Z m' S' H' → Q H'
theorem set_D (hu : X.A.units + 64 < cLine) : PSet X (tSetD X) := by
  intro pins s σ H o i v ov iv u Q I ro ri rv ⟨Z, m, S, od, kd, d, S', hr, r1, r2, r3, e, q⟩
  cases od <;> first | (cases e; done) | skip
  rename_i n
  rw [setItemD_ref] at e
  obtain ⟨a, rfl, g1⟩ := r1
  cases ro
  cases q1 : S[n]? with
  | none => rw [q1] at e; cases e
  | some so =>
    rw [q1] at e
    cases so with
    | lst xs =>
      cases kd <;> first | (cases e; done) | skip
      rename_i i'
      cases (show i = _ from r2)
      replace e : (match ixOf xs.length i' with
        | some j => some (S.set n (.lst (xs.set j d)))
        | none => none) = some S' := e
      cases q2 : ixOf xs.length i' with
      | none => rw [q2] at e; cases e
      | some j =>
        rw [q2] at e; cases e
        obtain ⟨vs, g2, g3⟩ := hr.obj n _ a q1 rfl g1
        exact set_list pins s σ H _ _ v _ iv u Q I (by rfl : RelV (.ref a) (.ref a)) ri rv ⟨a, vs, i', j, rfl, rfl, g2, by rw [← g3.length]; exact q2,
          q m _ (Ext.set (H := H) (so := .lst (xs.set j d)) (fun _ => rfl) q1 rfl g1 _) (HR.set hr q1 rfl g1 fun L' x => ⟨_, upd_same, (g3.mono x).set j (r3.mono x)⟩)⟩
    | dS ks ds =>
      cases kd <;> first | (cases e; done) | skip
      rename_i t
      cases (show i = _ from r2)
      replace e : (if ks.length < lineN then some (S.set n (.dS (putS ks ds t d).1 (putS ks ds t d).2)) else none) = some S' := e
      by_cases hl : ks.length < lineN
      · rw [if_pos hl] at e; cases e
        obtain ⟨vs, g2, g3, g4, g5⟩ := hr.obj n _ a q1 rfl g1
        obtain ⟨vs', p1, p2, p3, p4⟩ := putS_rep (k := t) g3 g4 g5 r3
        have hz : (kvZip ks vs).length < sizeLine := by
          rw [← lineN_eq]
          have : (kvZip ks vs).length = ks.length := by unfold kvZip; rw [List.length_zipWith, g3]; omega
          omega
        refine d_setItem (y := kV (Sum.inr (strV t))) (by omega) I (DPut.k (v := v) g2 hz) ri rv fun s' I' => ⟨_, I', ?_⟩
        rw [p1]
        refine q m _ (Ext.set (H := H) (so := .dS (putS ks ds t d).1 (putS ks ds t d).2) (fun _ => rfl) q1 rfl g1 _) (HR.set hr q1 rfl g1 fun L' x => ?_)
        obtain ⟨vs'', p1', p2', p3', p4'⟩ := putS_rep (k := t) g3 g4 (g5.mono x) (r3.mono x)
        rw [p1] at p1'
        exact ⟨vs'', by rw [upd_same, p1'], p2', p3', p4'⟩
      · rw [if_neg hl] at e; cases e
    | dT ks ds =>
      have e : (if (isKey kd && decide (ks.length < lineN)) = true then match putT ks ds kd d with
        | some (ks', vs') => some (S.set n (.dT ks' vs'))
        | none => none
        else none) = some S' := e
      by_cases hc : (isKey kd && decide (ks.length < lineN)) = true
      · rw [if_pos hc] at e
        rw [Bool.and_eq_true, decide_eq_true_eq] at hc
        obtain ⟨hk, hlt⟩ := hc
        obtain ⟨c, rfl⟩ := isKey_ref (X := X) hk r2
        cases ri
        obtain ⟨kk, k1, ki⟩ := deep_is I hk r2
        obtain ⟨kk', k1', kd6⟩ := isKey_nk hk
        rw [k1] at k1'; cases k1'
        obtain ⟨xs, vs, g2, g3, g4, g5⟩ := hr.obj n _ a q1 rfl g1
        have dd := raw_dict I g2 g3
        refine wpAny_setItem_heap (hsz := g2.sz) (deep_room hu) ki dd fun h' dd' hs => ?_
        have hmut : Mut (H a) := by
          obtain ⟨⟨o, es, ep, g, _⟩, _⟩ := g2
          rw [g]; trivial
        obtain ⟨o', es', ep', f1, f2, f3, f4, _, f5⟩ := dd'
        refine ⟨upd H a (RawO a o'), d_write I hmut hs ⟨o', f1⟩ ⟨f1, ⟨o', f1⟩, fun h1 h2 z1 z2 => z2 _ z1⟩, ?_⟩
        have at_ := fun {o} (e : keyIx kd ks = some o) => keyIx_at k1 g3 e
        unfold putT at e
        cases qk : keyIx kd ks with
        | none => rw [qk] at e; cases e
        | some oj =>
          rw [qk] at e
          have az := at_ qk
          cases oj with
          | none =>
            cases e
            have es : storedH xs kk c u = xs ++ [(kk, c, u)] := storedH_new az.1 c u
            rw [es] at f4 f5
            refine q m _ (Ext.set (H := H) (so := .dT (ks ++ [kd]) (ds ++ [d])) (fun _ => rfl) q1 rfl g1 _) (HR.set hr q1 rfl g1 fun L' x => ⟨xs ++ [(kk, c, u)], vs ++ [v], ⟨⟨o', es', ep', upd_same, f2, f3, f4, f5⟩, g2.sm, ?_⟩, (g3.mono x).snoc k1 kd6 (r2.mono x), (g4.mono x).snoc (r3.mono x), ?_⟩)
            · rw [List.length_append, List.length_singleton, ← g3.len, ← lineN_eq]; omega
            · rw [List.map_append]; exact g5.append (.cons rv .nil)
          | some j =>
            cases e
            obtain ⟨b, u0, z1, z2⟩ := az
            have es : storedH xs kk c u = xs.set j (kk, b, u) := by
              rw [storedH_old z2, putAt_set (by obtain ⟨⟨_, _, _, _, _, _, _, z⟩, _⟩ := g2; exact z) z1]
            rw [es] at f4 f5
            refine q m _ (Ext.set (H := H) (so := .dT ks (ds.set j d)) (fun _ => rfl) q1 rfl g1 _) (HR.set hr q1 rfl g1 fun L' x => ⟨xs.set j (kk, b, u), vs.set j v, ⟨⟨o', es', ep', upd_same, f2, f3, f4, f5⟩, g2.sm, by rw [List.length_set]; exact g2.sz⟩, (g3.mono x).setv z1, (g4.mono x).set j (r3.mono x), ?_⟩)
            rw [List.map_set]; exact g5.set rv j
      · rw [if_neg hc] at e; cases e
    | ins c fs => cases e
    | dead => cases e
theorem pg_subD {eo ei : Expr} {pos : Pos} {a b : Env → Store → Out D} {f : D → Env → Store → Option SR} (hu : X.A.units + 64 < cLine) (hn : notSlice ei = true) (ho : PE X eo (tD X a)) (hi : PE X ei (tD X b)) (hf : ∀ d ρ S, f d ρ S = bndS ρ (a ρ S) fun x S => bndS ρ (b ρ S) fun y S => match setItemD x y d S with
    | some S' => some (.nx ρ S')
    | none => none) : PG X (.Subscript eo ei pos) (gD X f) :=
  PG.imp (pg_sub ho hi (set_D hu) (by intro v; cases ei <;> first | rfl | cases hn)) fun v σ H Q ⟨Z, ρ, m, S, d, ρ', S', er, hr, rd, e, k⟩ => by
    rw [hf] at e
    obtain ⟨x, S1, e1, e⟩ := bndS_ok (X := X) (Z := Z) (m := m) (S := S) (H := H) (D := ⟨fun _ _ => True, fun _ _ => True, fun _ _ => True, fun _ _ => True⟩) e (fun _ _ _ _ _ _ => trivial)
    obtain ⟨y, S2, e2, e⟩ := bndS_ok (X := X) (Z := Z) (m := m) (S := S) (H := H) (D := ⟨fun _ _ => True, fun _ _ => True, fun _ _ => True, fun _ _ => True⟩) e (fun _ _ _ _ _ _ => trivial)
    cases q : setItemD x y d S2 with
    | none => rw [q] at e; cases e
    | some S3 =>
      rw [q] at e
      replace e : some (SR.nx ρ S3) = some (.nx ρ' S') := e
      cases e
      exact ⟨Z, ρ, m, S, x, S1, er, hr, e1, fun m1 H1 u x1 hr1 r1 => ⟨Z, ρ, m1, S1, y, S2, er.mono x1.mono, hr1, e2, fun m2 H2 w x2 hr2 r2 =>
        ⟨Z, m2, S2, x, y, d, _, hr2, r1.mono x2.mono, r2, (rd.mono x1.mono).mono x2.mono, q, fun m3 H3 x3 hr3 => k m3 H3 σ (x1.trans (x2.trans x3)) hr3 (((er.mono x1.mono).mono x2.mono).mono x3.mono)⟩⟩⟩
end
end KL
end
section
set_option Elab.async false
set_option linter.all false
set_option maxRecDepth 100000
set_option maxHeartbeats 2000000
set_option autoImplicit false
/-! KLMut3: displays of dicts, dict(d), get, index; stores from the right. -/
namespace KL
open PySem PySem.Spec PyProof.Rows L2

/-! ### a new thing is under way: nobody else leans on it -/
def ZP (Z : Addr → Prop) (p : Addr) : Addr → Prop := fun a => Z a ∨ a = p
section
variable {P : Program} {w : World} {K : PySem.W.Frag} {Z : Addr → Prop} {m m' : List Addr} {S S' : Store} {H H2 : Hp} {p : Addr}
theorem mono_addZ (hp : H p = none) (o : HO) : Mono H (LL Z m S) m (upd H p o) (LL (ZP Z p) m S) m :=
  ⟨fun _ _ h => h, fun b u hb _ => updne hp hb, fun b u hb n z => z.elim (fun z => z.elim (fun z => n (.inl z)) fun e => by rw [e, hp] at hb; cases hb) fun z => n (.inr z)⟩
theorem HR.addZ (h : HR P w K Z m S H) (hp : H p = none) (o : HO) : HR P w K (ZP Z p) m S (upd H p o) := by
  have np := h.notin hp
  refine ⟨h.len, h.nd, fun a ha => ?_, fun a ha => ?_, fun n u a h1 h2 h3 => ?_⟩
  · rw [upd_ne (show a ≠ p from fun e => np (e ▸ ha))]; exact h.dom a ha
  · rcases ha with ha | rfl
    · rw [upd_ne (show a ≠ p from fun e => (h.z a ha).1 (by rw [e]; exact hp))]; exact h.z a ha
    · exact ⟨by rw [upd_same]; exact fun z => (nomatch z), np⟩
  · have hm : a ∈ m := List.mem_of_getElem? h3
    exact (h.obj n u a h1 h2 h3).mono (mono_addZ hp o) (upd_ne (show a ≠ p from fun e => np (e ▸ hm)))
theorem mono_ownZ (o : HO) : Mono H2 (LL (ZP Z p) m' S') m' (upd H2 p o) (LL Z m' S') m' :=
  ⟨fun _ _ h => h, fun b u hb n => by rw [upd_ne (show b ≠ p from fun e => n (.inl (.inr e)))]; exact hb, fun b u hb n z => n (z.elim (fun z => .inl (.inl z)) .inr)⟩
theorem mono_ownZ' (o : HO) : Mono H2 (LL (ZP Z p) m' S') m' (upd H2 p o) (LL (ZP Z p) m' S') m' :=
  ⟨fun _ _ h => h, fun b u hb n => by rw [upd_ne (show b ≠ p from fun e => n (.inl (.inr e)))]; exact hb, fun b u hb n z => n z⟩
theorem HR.inZ (h : HR P w K (ZP Z p) m' S' H2) : p ∉ m' := (h.z p (.inr rfl)).2
theorem HR.ownZ (h : HR P w K (ZP Z p) m' S' H2) (o : HO) : HR P w K Z m' S' (upd H2 p o) := by
  refine ⟨h.len, h.nd, fun a ha => ?_, fun a ha => ?_, fun n u a h1 h2 h3 => ?_⟩
  · rw [upd_ne (show a ≠ p from fun e => h.inZ (e ▸ ha))]; exact h.dom a ha
  · by_cases e : a = p
    · rw [e]; exact ⟨by rw [upd_same]; exact fun z => (nomatch z), h.inZ⟩
    · rw [upd_ne e]; exact h.z a (.inl ha)
  · have hm : a ∈ m' := List.mem_of_getElem? h3
    exact (h.obj n u a h1 h2 h3).mono (mono_ownZ o) (upd_ne (show a ≠ p from fun e => h.inZ (e ▸ hm)))
theorem HR.ownZ' (h : HR P w K (ZP Z p) m' S' H2) (o : HO) : HR P w K (ZP Z p) m' S' (upd H2 p o) := by
  refine ⟨h.len, h.nd, fun a ha => ?_, fun a ha => ?_, fun n u a h1 h2 h3 => ?_⟩
  · rw [upd_ne (show a ≠ p from fun e => h.inZ (e ▸ ha))]; exact h.dom a ha
  · by_cases e : a = p
    · rw [e]; exact ⟨by rw [upd_same]; exact fun z => (nomatch z), h.inZ⟩
    · rw [upd_ne e]; exact h.z a ha
  · have hm : a ∈ m' := List.mem_of_getElem? h3
    exact (h.obj n u a h1 h2 h3).mono (mono_ownZ' o) (upd_ne (show a ≠ p from fun e => h.inZ (e ▸ hm)))
theorem HR.notZ (h : HR P w K Z m S H) (hp : H p = none) (h2 : HR P w K (ZP Z p) m' S' H2) : ¬ LL Z m' S' p := by
  rintro (z | z)
  · exact (h.z p z).1 hp
  · exact h2.inZ z.mem
theorem Ext.over (hp : H p = none) {o : HO} (x : Ext m S (upd H p o) m' S' H2) (o2 : HO) : Ext m S H m' S' (upd H2 p o2) := by
  refine ⟨x.pre, fun b u hb n => ?_, fun b u hb n => x.noL b u (updne hp hb) n⟩
  rw [upd_ne (ne_of_none hb hp)]
  exact x.keep b u (updne hp hb) n
/-- .. and it comes into the store -/
theorem HR.pushZ (h : HR P w K (ZP Z p) m' S' H2) {o : HO} {so : SO} (r : ∀ L' m2, Mono H2 (LL (ZP Z p) m' S') m' (upd H2 p o) L' m2 → SRep P w K (upd H2 p o) L' m2 p so) (hz : ¬ Z p) : HR P w K Z (m' ++ [p]) (S' ++ [so]) (upd H2 p o) := by
  have np := h.inZ
  have x : Mono H2 (LL (ZP Z p) m' S') m' (upd H2 p o) (LL Z (m' ++ [p]) (S' ++ [so])) (m' ++ [p]) := by
    refine ⟨fun n a e => ?_, fun b u hb n => by rw [upd_ne (show b ≠ p from fun e => n (.inl (.inr e)))]; exact hb, fun b u hb n z => ?_⟩
    · rw [List.getElem?_append_left (List.getElem?_eq_some_iff.mp e).1]; exact e
    · rcases z with z | ⟨i, q, h1, h2, h3⟩
      · exact n (.inl (.inl z))
      · by_cases hi : i < S'.length
        · rw [List.getElem?_append_left hi] at h1
          rw [List.getElem?_append_left (by rw [h.len]; exact hi)] at h3
          exact n (.inr ⟨i, q, h1, h2, h3⟩)
        · rw [List.getElem?_append_right (by rw [h.len]; omega)] at h3
          have hm : b ∈ [p] := List.mem_of_getElem? h3
          rw [List.mem_singleton] at hm
          exact n (.inl (.inr hm))
  refine ⟨by simp [h.len], ?_, fun a ha => ?_, fun a ha => ?_, fun n u a h1 h2 h3 => ?_⟩
  · rw [List.nodup_append]
    refine ⟨h.nd, by simp, fun a ha b hb => ?_⟩
    rw [List.mem_singleton] at hb
    rw [hb]
    exact fun e => np (e ▸ ha)
  · rcases List.mem_append.mp ha with ha | ha
    · rw [upd_ne (show a ≠ p from fun e => np (e ▸ ha))]; exact h.dom a ha
    · rw [List.mem_singleton] at ha
      rw [ha, upd_same]; exact fun z => nomatch z
  · have e : a ≠ p := fun e => hz (e ▸ ha)
    rw [upd_ne e]
    refine ⟨(h.z a (.inl ha)).1, fun z => ?_⟩
    rcases List.mem_append.mp z with z | z
    · exact (h.z a (.inl ha)).2 z
    · exact e (List.mem_singleton.mp z)
  · by_cases hi : n < S'.length
    · rw [List.getElem?_append_left hi] at h1
      rw [List.getElem?_append_left (by rw [h.len]; exact hi)] at h3
      have hm : a ∈ m' := List.mem_of_getElem? h3
      exact (h.obj n u a h1 h2 h3).mono x (upd_ne (show a ≠ p from fun e => np (e ▸ hm)))
    · have e1 : n = S'.length := by
        have := (List.getElem?_eq_some_iff.mp h1).1
        simp at this; omega
      subst e1
      rw [List.getElem?_append_right (Nat.le_refl _)] at h1
      simp at h1
      subst h1
      rw [List.getElem?_append_right (by rw [h.len]; exact Nat.le_refl _)] at h3
      have hm : a ∈ [p] := List.mem_of_getElem? h3
      rw [List.mem_singleton] at hm
      rw [hm]
      exact r _ _ x
theorem Ext.pushZ (h : HR P w K (ZP Z p) m' S' H2) (hp : H p = none) {o : HO} (x : Ext m S (upd H p o) m' S' H2) (o2 : HO) (so : SO) : Ext m S H (m' ++ [p]) (S' ++ [so]) (upd H2 p o2) := by
  obtain ⟨t, e⟩ := x.pre
  refine ⟨⟨t ++ [p], by rw [e, List.append_assoc]⟩, (Ext.over hp x o2).keep, fun b u hb n z => ?_⟩
  obtain ⟨i, q, h1, h2, h3⟩ := z
  by_cases hi : i < S'.length
  · rw [List.getElem?_append_left hi] at h1
    rw [List.getElem?_append_left (by rw [h.len]; exact hi)] at h3
    exact x.noL b u (updne hp hb) n ⟨i, q, h1, h2, h3⟩
  · rw [List.getElem?_append_right (by rw [h.len]; omega)] at h3
    have hm : b ∈ [p] := List.mem_of_getElem? h3
    rw [List.mem_singleton] at hm
    rw [hm, hp] at hb; cases hb
/-! ### displays -/
theorem merge_rep {L : Addr → Prop} : ∀ {ks : List Txt} {ds : List D} {vs : List V} {ks0 : List Txt} {ds0 : List D} {vs0 : List V}, ks.length = ds.length → Reps P w K H L m ds vs → ks0.length = vs0.length → ks0.Nodup → Reps P w K H L m ds0 vs0 →
    ∃ vs', mergeK (kvZip ks0 vs0) (kvZip ks vs) = kvZip ((ks.zip ds).foldl (fun p q => putS p.1 p.2 q.1 q.2) (ks0, ds0)).1 vs' ∧ ((ks.zip ds).foldl (fun p q => putS p.1 p.2 q.1 q.2) (ks0, ds0)).1.length = vs'.length ∧
      ((ks.zip ds).foldl (fun p q => putS p.1 p.2 q.1 q.2) (ks0, ds0)).1.Nodup ∧ Reps P w K H L m ((ks.zip ds).foldl (fun p q => putS p.1 p.2 q.1 q.2) (ks0, ds0)).2 vs'
  | [], [], vs, ks0, ds0, vs0, _, h, h1, h2, h3 => by rw [show vs = [] from h]; exact ⟨vs0, rfl, h1, h2, h3⟩
  | [], _ :: _, _, _, _, _, hl, _, _, _, _ => by simp at hl
  | _ :: _, [], _, _, _, _, hl, _, _, _, _ => by simp at hl
  | k :: ks, d :: ds, _, ks0, ds0, vs0, hl, h, h1, h2, h3 => by
    obtain ⟨v, vs, rfl, r1, r2⟩ := h
    obtain ⟨vs1, p1, p2, p3, p4⟩ := putS_rep (k := k) h1 h2 h3 r1
    have ih := merge_rep (ks := ks) (by simpa using hl) r2 p2 p3 p4
    rw [← p1] at ih
    exact ih
end
section
variable {X : Cx} {Z : Addr → Prop} {m : List Addr} {S : Store} {H : Hp} {σ : L2.St} {ρ : Env} {f : Env → Store → Out D} {pos : Pos}
/-- several expressions, one after another -/
def evs : List (Env → Store → Out D) → Env → Store → Out (List D)
  | [], _, S => ok [] S
  | g :: gs, ρ, S => bnd (g ρ S) fun d S => bnd (evs gs ρ S) fun ds S => ok (d :: ds) S
def dtrs (X : Cx) : List Txt → List (Env → Store → Out D) → List (TE × TE)
  | k :: ks, g :: gs => (tC (.str (strV k)), tD X g) :: dtrs X ks gs
  | _, _ => []
theorem evs_pairs : ∀ {ks : List Txt} {gs : List (Env → Store → Out D)} {m : List Addr} {S S' : Store} {H : Hp} {ds : List D} {Q : List (V × V) → Hp → Prop}, ks.length = gs.length → ER X H (LL Z m S) m σ ρ → HRX X Z m S H → evs gs ρ S = some (.ok ds S') →
    KA X Z m S H ds S' (fun vs H' => Q ((kvZip ks vs).map fun kv => (kV kv.1, kv.2)) H') → tPairs (dtrs X ks gs) σ H Q
  | [], [], m, S, S', H, ds, Q, _, er, hr, e, k => by
    obtain ⟨rfl, rfl⟩ := ok_ok e
    exact k m H [] Ext.refl hr rfl
  | [], _ :: _, _, _, _, _, _, _, hl, _, _, _, _ => by simp at hl
  | _ :: _, [], _, _, _, _, _, _, hl, _, _, _, _ => by simp at hl
  | c :: ks, g :: gs, m, S, S', H, ds, Q, hl, er, hr, e, k => by
    obtain ⟨d, S1, e1, e⟩ := bnd_ok (show bnd (g ρ S) (fun d S => bnd (evs gs ρ S) fun ds S => ok (d :: ds) S) = some (.ok ds S') from e)
    obtain ⟨ds', S2, e2, e⟩ := bnd_ok e
    obtain ⟨rfl, rfl⟩ := ok_ok e
    refine ⟨Z, ρ, m, S, d, S1, er, hr, e1, fun m1 H1 v x1 hr1 r1 => ?_⟩
    exact evs_pairs (ks := ks) (by simpa using hl) (er.mono x1.mono) hr1 e2 fun m2 H2 vs x2 hr2 r2 => k m2 H2 (v :: vs) (x1.trans x2) hr2 ⟨v, vs, rfl, r1.mono x2.mono, r2⟩
theorem kvZip_len {ks : List Txt} {vs : List V} (h : ks.length = vs.length) : (kvZip ks vs).length = ks.length := by
  unfold kvZip; rw [List.length_zipWith, h]; omega
theorem evs_len : ∀ {gs : List (Env → Store → Out D)} {S S' : Store} {ds : List D}, evs gs ρ S = some (.ok ds S') → ds.length = gs.length
  | [], S, S', ds, e => by obtain ⟨rfl, rfl⟩ := ok_ok e; rfl
  | g :: gs, S, S', ds, e => by
    obtain ⟨d, S1, e1, e⟩ := bnd_ok (show bnd (g ρ S) (fun d S => bnd (evs gs ρ S) fun ds S => ok (d :: ds) S) = some (.ok ds S') from e)
    obtain ⟨ds', S2, e2, e⟩ := bnd_ok e
    obtain ⟨rfl, rfl⟩ := ok_ok e
    simp [evs_len e2]
theorem pe_dispD {ks : List Txt} {gs : List (Env → Store → Out D)} {keys : List (Option Expr)} {values : List Expr} (hp : PPs X pos keys values (dtrs X ks gs)) (hall : keys.all (·.isSome) = true) (hl : keys.length = values.length) (h0 : keys ≠ []) (h15 : ks.length ≤ 15) (hk : keys.length = ks.length) (hg : ks.length = gs.length)
    (hf : ∀ ρ S, f ρ S = bnd (evs gs ρ S) fun ds S => if ds.length = ks.length then ok (.dS (keysTxt ks ds).1 (keysTxt ks ds).2) S else none) : PE X (.Dict keys values pos) (tD X f) := by
  refine PE.imp (pe_disp hp hall hl h0 (by omega)) fun σ H Q ⟨Z, ρ, m, S, d, S', er, hr, ef, k⟩ p hp0 => ?_
  rw [hf] at ef
  obtain ⟨ds, S1, e1, ef⟩ := bnd_ok ef
  have hlen : ds.length = ks.length := by rw [evs_len e1, hg]
  rw [if_pos hlen] at ef
  obtain ⟨rfl, rfl⟩ := ok_ok ef
  refine evs_pairs (Z := ZP Z p) hg (er.mono (mono_addZ hp0 _)) (hr.addZ hp0 _) e1 fun m1 H1 vs x1 hr1 r1 => ?_
  have hv : ks.length = vs.length := by rw [← hlen]; exact r1.length
  have hp1 : H1 p = some (.dK []) := x1.keep p _ upd_same fun z => hr.notin hp0 z.mem
  refine ⟨hp1, kvZip ks vs, rfl, by rw [kvZip_len hv]; exact h15, ?_⟩
  obtain ⟨vs', q1, q2, q3, q4⟩ := merge_rep (ks0 := []) (ds0 := []) (vs0 := []) hlen.symm (r1.mono (mono_ownZ (Z := Z) (.dK (mergeK [] (kvZip ks vs))))) rfl List.nodup_nil rfl
  refine k m1 _ _ (Ext.over hp0 x1 _) (hr1.ownZ _) ⟨p, vs', rfl, ?_, hr.notZ hp0 hr1, q2, q4⟩
  rw [upd_same]
  exact congrArg (fun z => some (HO.dK z)) q1
theorem pe_newSD {ks : List Txt} {gs : List (Env → Store → Out D)} {keys : List (Option Expr)} {values : List Expr} (hp : PPs X pos keys values (dtrs X ks gs)) (hall : keys.all (·.isSome) = true) (hl : keys.length = values.length) (h0 : keys ≠ []) (h15 : ks.length ≤ 15) (hk : keys.length = ks.length) (hg : ks.length = gs.length)
    (hf : ∀ ρ S, f ρ S = bnd (evs gs ρ S) fun ds S => if ds.length = ks.length then ok (.ref S.length) (S ++ [.dS (keysTxt ks ds).1 (keysTxt ks ds).2]) else none) : PE X (.Dict keys values pos) (tD X f) := by
  refine PE.imp (pe_disp hp hall hl h0 (by omega)) fun σ H Q ⟨Z, ρ, m, S, d, S', er, hr, ef, k⟩ p hp0 => ?_
  rw [hf] at ef
  obtain ⟨ds, S1, e1, ef⟩ := bnd_ok ef
  have hlen : ds.length = ks.length := by rw [evs_len e1, hg]
  rw [if_pos hlen] at ef
  obtain ⟨rfl, rfl⟩ := ok_ok ef
  refine evs_pairs (Z := ZP Z p) hg (er.mono (mono_addZ hp0 _)) (hr.addZ hp0 _) e1 fun m1 H1 vs x1 hr1 r1 => ?_
  have hv : ks.length = vs.length := by rw [← hlen]; exact r1.length
  have hp1 : H1 p = some (.dK []) := x1.keep p _ upd_same fun z => hr.notin hp0 z.mem
  refine ⟨hp1, kvZip ks vs, rfl, by rw [kvZip_len hv]; exact h15, ?_⟩
  refine k _ _ _ (Ext.pushZ hr1 hp0 x1 _ _) (HR.pushZ hr1 (fun L' m2 x => ?_) fun z => (hr.z p z).1 hp0) ⟨p, rfl, by rw [List.getElem?_append_right (by rw [hr1.len]; exact Nat.le_refl _), hr1.len]; simp⟩
  obtain ⟨vs', q1, q2, q3, q4⟩ := merge_rep (ks0 := []) (ds0 := []) (vs0 := []) hlen.symm (r1.mono x) rfl List.nodup_nil rfl
  exact ⟨vs', by rw [upd_same]; exact congrArg (fun z => some (HO.dK z)) q1, q2, q3, q4⟩
theorem pe_newS0 (hf : ∀ ρ S, f ρ S = ok (.ref S.length) (S ++ [.dS [] []])) : PE X (.Dict [] [] pos) (tD X f) :=
  PE.imp pe_dnewK fun σ H Q ⟨Z, ρ, m, S, d, S', er, hr, ef, k⟩ p hp => by
    rw [hf] at ef
    obtain ⟨rfl, rfl⟩ := ok_ok ef
    exact k _ _ _ (Ext.push hr hp _ _) (HR.push hr hp fun L' m' x => ⟨[], by rw [upd_same]; rfl, rfl, List.nodup_nil, rfl⟩) (HR.refNew hr)
theorem nodupT_ok : ∀ {ks : List Txt}, nodupT ks = true → ks.Nodup
  | [], _ => List.nodup_nil
  | k :: ks, h => by
    have h : ((keyIxS k ks).isNone && nodupT ks) = true := h
    rw [Bool.and_eq_true, Option.isNone_iff_eq_none] at h
    exact List.nodup_cons.mpr ⟨keyIxS_none h.1, nodupT_ok h.2⟩
/-- dict(d): a copy into the store -/
theorem pe_copyD {a : Env → Store → Out D} {e : Expr} {p : Pos} (hg : Gl X "dict") (hm : X.mg "dict" = none) (he : PE X e (tD X a)) (hn : notStar e = true) (hf : ∀ ρ S, f ρ S = bnd (a ρ S) fun d S => match view S d with
    | .dS ks vs => if nodupT ks then ok (.ref S.length) (S ++ [.dS ks vs]) else none
    | _ => none) : PE X (.Call (.Name "dict" p) [e] [] pos) (tD X f) :=
  PE.imp (pe_callTy call_dictD hg hm (by first | rfl | decide +kernel) (pa_cons he pa_nil (star_cons hn)) (by decide) (by decide) (star_cons hn) rfl) fun σ H Q ⟨Z, ρ, m, S, d, S', er, hr, ef, k⟩ => by
    rw [hf] at ef
    obtain ⟨x, S1, e1, ef⟩ := bnd_ok ef
    refine ⟨Z, ρ, m, S, x, S1, er, hr, e1, fun m1 H1 v x1 hr1 r1 => ?_⟩
    generalize hv : view S1 x = y at ef
    cases y <;> first | (cases ef; done) | skip
    rename_i ks ds
    obtain ⟨hnd, ef⟩ := ite_ok ef
    obtain ⟨rfl, rfl⟩ := ok_ok ef
    obtain ⟨b, vs, rfl, g1, g2, g3⟩ := dS_at hr1 r1 hv
    exact ⟨b, _, rfl, .inl g1, fun q hq => k _ _ _ (x1.trans (Ext.push hr1 hq _ _)) (HR.push hr1 hq fun L' m' x => ⟨vs, upd_same, g2, nodupT_ok hnd, g3.mono x⟩) (HR.refNew hr1)⟩
end
end KL
end
section
set_option Elab.async false
set_option linter.all false
set_option maxRecDepth 100000
set_option maxHeartbeats 2000000
set_option autoImplicit false
/-! KLMut4: get, index; stores from the right; comprehensions. -/
namespace KL
open PySem PySem.Spec PyProof.Rows L2

section
variable {X : Cx} {Z : Addr → Prop} {m : List Addr} {S : Store} {H : Hp} {σ : L2.St} {ρ : Env} {a f : Env → Store → Out D} {g : Env → Store → Out (List D)} {e eo : Expr} {es : List Expr} {apos pos : Pos}
/-- a built-in's method, the receiver's type by a rule of its own -/
def tMT (ok : V → Hp → Prop) (r : V → List V → Hp → VK → Prop) (to : TE) (t : TA) : TE := fun σ H Q => to σ H fun x H1 => ok x H1 ∧ t σ H1 fun xs H2 => r x xs H2 Q
theorem pe_mT {T id : String} {name : Str} {ok : V → Hp → Prop} {r : V → List V → Hp → VK → Prop} {to : TE} {t : TA} (pa : PlainAttrs T) (slot : Slot T name id) (hty : typeOf (.builtin id) = pure (.type "method_descriptor"))
    (hok : ∀ (pins : List (Addr × Obj)) (σ : L2.St) (H : Hp) (s : Shared) (x : V) (v : Value), Inv X pins σ H s → RelV x v → ok x H → s.TypeIs v T ∧ ∀ a, v = .ref a → ∃ ob, s.heap.get? a = some ob ∧ ob.dict = none)
    (hm : MtR X id r) (ho : PE X eo to) (ha : PA X (e :: es) t) (mc : MC X eo name apos pos (e :: es)) (hs : noStars (e :: es) = true) : PE X (.Call (.Attribute eo name apos) (e :: es) [] pos) (tMT ok r to t) := by
  have h' : (notStar e && es.all notStar) = true := hs
  rw [Bool.and_eq_true] at h'
  have hst : starEach (e :: es) X.env = (false, eval e X.env) :: starEach es X.env := star_cons h'.1
  refine ⟨fun pins s σ H Q I h => ?_⟩
  refine wpAny_Call_method_late mc.base mc.few mc.line rfl (thn (ho.run pins s σ H _ I h) fun v s1 ⟨x, H1, I1, r1, hx, q1⟩ => ?_)
  obtain ⟨h1, h2⟩ := hok pins σ H1 s1 x v I1 r1 hx
  refine ⟨T, id, pa, slot, hty, h1, h2, ?_⟩
  have hA := ha.run pos pins s1 σ H1 _ I1 q1
  rw [hst] at hA ⊢
  refine Calls.callWith_builtin (by show (false || (backTo pos (starEach es X.env)).any (·.1)) = false; rw [(back_plain h'.2).1]; rfl) (Calls.evalArgs_plain ?_)
  exact thn hA fun us s2 ⟨vs, H2, I2, r2, q2⟩ => hm pins s2 σ H2 x vs v us Q I2 r1 r2 q2
/-- it is a dict -/
def okD (X : Cx) : V → Hp → Prop := fun x H => ∃ Z m S d, HRX X Z m S H ∧ RP X H (LL Z m S) m d x ∧ isDict d S = true
theorem okD_is (pins : List (Addr × Obj)) (σ : L2.St) (H : Hp) (s : Shared) (x : V) (v : Value) (I : Inv X pins σ H s) (rx : RelV x v) (h : okD X x H) : s.TypeIs v "dict" ∧ ∀ a, v = .ref a → ∃ ob, s.heap.get? a = some ob ∧ ob.dict = none := by
  obtain ⟨Z, m, S, d, hr, rd, c⟩ := h
  unfold isDict at c
  generalize hv : view S d = y at c
  cases y <;> first | (cases c; done) | skip
  · obtain ⟨b, vs, rfl, g1, g2, g3⟩ := dS_at hr rd hv
    cases rx
    have q := isD_at I (.inl ⟨_, .inl g1⟩)
    exact ⟨q.1, q.2.1⟩
  · obtain ⟨b, xs, vs, rfl, ⟨⟨o, es, ep, g1, g2, g3, _⟩, _, _⟩, _⟩ := dT_at hr rd hv
    cases rx
    have q : s.heap.get? b = some o := (I.hok b _ g1).1
    refine ⟨⟨o, q, g2.1⟩, fun a e => ?_⟩
    cases e
    exact ⟨o, q, g2.2.1⟩
def RM (X : Cx) (h : D → List D → Store → Option D) : V → List V → Hp → VK → Prop := fun x xs H Q => ∃ Z m S d ds r, HRX X Z m S H ∧ RP X H (LL Z m S) m d x ∧ RPs X H (LL Z m S) m ds xs ∧ h d ds S = some r ∧ KD X Z m S H r S Q
/-- what get finds, the second where it is not there -/
theorem get_found {pins : List (Addr × Obj)} {s : Shared} {Q : VK} {x y z : V} {v u w : Value} {o k df r : D} (hu : X.A.units + 64 < cLine) (I : Inv X pins σ H s) (rx : RelV x v) (ry : RelV y u) (rz : RelV z w) (hr : HRX X Z m S H) (ro : RP X H (LL Z m S) m o x) (rk : RP X H (LL Z m S) m k y) (rdf : RP X H (LL Z m S) m df z)
    (h : getOr o k df S = some r) (kk : KD X Z m S H r S Q) : ∃ a, v = .ref a ∧ x = .ref a ∧
      ((∃ (kvs : List (Key × V)) (t : Str) (o : Option V), H a = some (.dK kvs) ∧ y = .str t ∧ DGet H a y o ∧ ∀ s', Inv X pins σ H s' → ∀ w', RelV (o.getD z) w' → EP X pins σ Q w' s') ∨
       (∃ (xs : List (KK × Addr × Value)) (c : Addr) (kx : KK), u = .ref c ∧ (a == sysModules) = false ∧ (deepKind X.prog X.w).is s.heap kx c ∧ s.heap.DictOfH (deepKind X.prog X.w) a xs ∧ ∀ s', Inv X pins σ H s' → EP X pins σ Q (((atKey xs kx).map (·.2)).getD w) s')) := by
  unfold getOr at h
  generalize hv : view S o = q at h
  cases q with
  | dS ks ds =>
    cases k <;> first | (cases h; done) | skip
    rename_i t
    cases (show y = _ from rk)
    replace h : (match keyIxS t ks with
        | some j => ds[j]?
        | none => some df) = some r := h
    obtain ⟨b, vs, rfl, g1, g2, g3⟩ := dS_at hr ro hv
    cases rx
    have kv := kv_val g2 t
    have g : DGet H b (kV (Sum.inr (strV t))) (valV (kvZip ks vs) (Sum.inr (strV t))) := DGet.k g1
    refine ⟨b, rfl, rfl, .inl ⟨_, strV t, _, g1, rfl, g, fun s' I' w' rw' => ?_⟩⟩
    cases q2 : keyIxS t ks with
    | none =>
      rw [q2] at h kv
      cases h
      rw [kv] at rw'
      exact ⟨z, H, I', rw', kk.here hr rdf⟩
    | some j =>
      rw [q2] at h kv
      obtain ⟨v', e1, r1⟩ := g3.at h
      obtain ⟨v2, e2, r2⟩ := kv
      rw [e1] at e2; cases e2
      rw [r2] at rw'
      exact ⟨v', H, I', rw', kk.here hr r1⟩
  | dT ks ds =>
    replace h : (if isKey k = true then match keyIx k ks with
        | some (some j) => ds[j]?
        | some none => some df
        | none => none
      else none) = some r := h
    by_cases hk : isKey k = true
    · rw [if_pos hk] at h
      obtain ⟨b, xs, vs, rfl, h1, h3, h4, h5⟩ := dT_at hr ro hv
      obtain ⟨c, rfl⟩ := isKey_ref (X := X) hk rk
      cases rx; cases ry
      obtain ⟨kx, k1, ki⟩ := deep_is I hk rk
      have dd := raw_dict I h1 h3
      refine ⟨b, rfl, rfl, .inr ⟨xs, c, kx, rfl, h1.sm, ki, dd, fun s' I' => ?_⟩⟩
      cases q2 : keyIx k ks with
      | none => rw [q2] at h; cases h
      | some oj =>
        have at_ := keyIx_at k1 h3 q2
        rw [q2] at h
        cases oj with
        | none =>
          cases h
          rw [at_.1]
          exact ⟨z, H, I', rz, kk.here hr rdf⟩
        | some j =>
          obtain ⟨b', u', i1, i2⟩ := at_
          obtain ⟨v', r1, r2⟩ := atKey_val i1 h4 h5 h
          rw [i2]
          exact ⟨v', H, I', r1, kk.here hr r2⟩
    · rw [if_neg hk] at h; cases h
  | _ => cases h
theorem mt_get1D (hu : X.A.units + 64 < cLine) : MtR X "dict.get" (RM X (mfD .get1)) := by
  intro pins s σ H x xs v us Q I rx rs ⟨Z, m, S, d, ds, r, hr, rd, rds, e, k⟩
  match ds, e with
  | [kd], e =>
    obtain ⟨y, rfl, rk⟩ := RPs.one rds
    obtain ⟨u, rfl, ry⟩ := vals1 rs
    obtain ⟨a, rfl, rfl, q⟩ := get_found (df := .non) (z := .non) (w := .none) hu I rx ry (by rfl) hr rd rk (by rfl) e k
    rcases q with ⟨kvs, t, o, g1, rfl, g2, fin⟩ | ⟨ys, c, kx, rfl, hs, ki, dd, fin⟩
    · exact d_get1 (by omega) I g2 ry fun w' s' I' rw' => fin s' I' w' rw'
    · exact call_meetsIn PySem.F.slot_dict_get dd.typeIs PySem.F.entry_dict_get (PySem.F.args_dict_get_2 _ _) (meetsH_dict_get (deepKind X.prog X.w) a c hs) ⟨deep_room (X := X) hu, kx, ys, ki, dd, fin _ (I.tok _)⟩
theorem mt_get2D (hu : X.A.units + 64 < cLine) : MtR X "dict.get" (RM X (mfD .get2)) := by
  intro pins s σ H x xs v us Q I rx rs ⟨Z, m, S, d, ds, r, hr, rd, rds, e, k⟩
  match ds, e with
  | [kd, df], e =>
    obtain ⟨y, z, rfl, rk, rdf⟩ := RPs.two rds
    obtain ⟨u, w, rfl, ry, rz⟩ := vals2 rs
    obtain ⟨a, rfl, rfl, q⟩ := get_found hu I rx ry rz hr rd rk rdf e k
    rcases q with ⟨kvs, t, o, g1, rfl, g2, fin⟩ | ⟨ys, c, kx, rfl, hs, ki, dd, fin⟩
    · exact d_get2 (by omega) I g2 ry rz fun w' s' I' rw' => fin s' I' w' rw'
    · exact call_meetsIn PySem.F.slot_dict_get dd.typeIs PySem.F.entry_dict_get (PySem.F.args_dict_get_3 _ _ _) (meetsH_dict_get_default (deepKind X.prog X.w) a c hs w) ⟨deep_room (X := X) hu, kx, ys, ki, dd, fin _ (I.tok _)⟩
/-- it is a list -/
def okL (X : Cx) : V → Hp → Prop := fun x H => ∃ a vs, x = .ref a ∧ H a = some (.lst vs)
theorem okL_is (pins : List (Addr × Obj)) (σ : L2.St) (H : Hp) (s : Shared) (x : V) (v : Value) (I : Inv X pins σ H s) (rx : RelV x v) (h : okL X x H) : s.TypeIs v "list" ∧ ∀ a, v = .ref a → ∃ ob, s.heap.get? a = some ob ∧ ob.dict = none := by
  obtain ⟨a, vs, rfl, g⟩ := h
  cases rx
  obtain ⟨_, its, n, _, e⟩ := I.hok a _ g
  refine ⟨⟨_, e, rfl⟩, fun b hb => ?_⟩
  cases hb
  exact ⟨_, e, rfl⟩
theorem firstIx_run {pins : List (Addr × Obj)} {s : Shared} {L : Addr → Prop} (I : Inv X pins σ H s) {x : D} {xv : V} {xu : Value} (rx : RelV xv xu) (hx : RP X H L m x xv) : ∀ {ys : List D} {vs : List V} {us : List Value} {j : Nat}, firstIx x ys = some j → RPs X H L m ys vs → Vals vs us →
    j < us.length ∧ (∀ u, us[j]? = some u → eqVal X H L m x u = true) ∧ ∀ i u, i < j → us[i]? = some u → eqVal X H L m x u = false
  | [], vs, us, j, h, _, _ => by cases h
  | y :: ys, _, us, j, h, hv, hr => by
    obtain ⟨v, vs', rfl, h1, h2⟩ := hv
    cases hr with
    | cons r1 r2 =>
      unfold firstIx at h
      cases e1 : eqD y x with
      | none => rw [e1] at h; cases h
      | some c =>
        rw [e1] at h
        have q := eqVal_of I r1 h1 e1
        cases c with
        | true =>
          cases h
          refine ⟨by simp, fun u hu => ?_, fun i u hi => by omega⟩
          simp at hu; subst hu; exact q
        | false =>
          obtain ⟨j', h', rfl⟩ := Option.map_eq_some_iff.mp (show (firstIx x ys).map (· + 1) = some j from h)
          obtain ⟨i1, i2, i3⟩ := firstIx_run I rx hx h' h2 r2
          refine ⟨by simp; omega, fun u hu => i2 u (by simpa using hu), fun i u hi hu => ?_⟩
          cases i with
          | zero => simp at hu; subst hu; exact q
          | succ i => exact i3 i u (by omega) (by simpa using hu)
theorem firstIx_eqs {pins : List (Addr × Obj)} {s : Shared} {L : Addr → Prop} (I : Inv X pins σ H s) {A : Around} (hA : A.units + 41 < cLine) {x : D} {xv : V} {xu : Value} (rx : RelV xv xu) (hx : RP X H L m x xv) : ∀ {ys : List D} {vs : List V} {us : List Value} {b : Bool}, memL x ys = some b → RPs X H L m ys vs → Vals vs us → ∀ u ∈ us, SeqAt.EqAt A s u xu (eqVal X H L m x u) := fun h hv hr => (memL_run I hA rx hx h hv hr).1
theorem mt_indexD (hu : X.A.units + 64 < cLine) : MtR X "list.index" (RM X (mfD .index)) := by
  intro pins s σ H x xs v us Q I rx rs ⟨Z, m, S, d, ds, r, hr, rd, rds, e, k⟩
  match ds, e with
  | [kd], e =>
    obtain ⟨y, rfl, rk⟩ := RPs.one rds
    obtain ⟨u, rfl, ry⟩ := vals1 rs
    replace e : (match lstOf S d with
      | some ys => if ys.length ≤ lineN then match memL kd ys, firstIx kd ys with
        | some _, some j => some (D.int j)
        | _, _ => none
        else none
      | none => none) = some r := e
    cases q1 : lstOf S d with
    | none => rw [q1] at e; cases e
    | some ys =>
      rw [q1] at e
      replace e : (if ys.length ≤ lineN then match memL kd ys, firstIx kd ys with
        | some _, some j => some (D.int j)
        | _, _ => none
        else none) = some r := e
      by_cases hl : ys.length ≤ lineN
      · rw [if_pos hl] at e
        obtain ⟨a, vs, rfl, g1, g2⟩ := lstOf_at hr rd q1
        cases rx
        cases q2 : memL kd ys with
        | none => rw [q2] at e; cases e
        | some b =>
          cases q3 : firstIx kd ys with
          | none => rw [q2, q3] at e; cases e
          | some j =>
            rw [q2, q3] at e; cases e
            obtain ⟨its, rv, ⟨⟨cls, dd, data, sl⟩, n, ho, hc, hdn, hd⟩, hlen⟩ := I.list (show SqL X.K H a vs from .inl (.inl g1))
            simp only at hc hd
            subst hc hd
            obtain ⟨f1, f2, f3⟩ := firstIx_run I ry rk q3 g2 rv
            have hm := firstIx_eqs I (A := X.A.in1) (by rw [in1_units]; omega) ry rk q2 g2 rv
            have hsl := sizeLine_eq
            have hlen2 := rv.length
            refine call_meets PySem.F.slot_list_index ⟨_, ho, rfl⟩ PySem.F.entry_list_index (PySem.F.args_list_index_2 _ _)
              (SeqAt.list_indexAt a its.toArray n dd sl u (eqVal X H (LL Z m S) m kd) j (by simpa using f1) (by omega) (f2 _ (by simp)) fun i hi hij => f3 i _ hij (by simp)) ⟨ho, fun u' hu' => hm u' (by simpa using hu'), ?_⟩
            exact ⟨.int (j : Nat), H, I.tok _, ⟨_, rfl⟩, k.here hr (v := .int (j : Nat)) rfl⟩
      · rw [if_neg hl] at e; cases e
/-! ### the expression rules -/
theorem tMT.of {ok : V → Hp → Prop} {h : D → List D → Store → Option D} {c : D → Store → Bool} {Q : VK} (hf : ∀ ρ S, f ρ S = bnd (a ρ S) fun x S => if c x S then bnd (g ρ S) fun ds S => lift (h x ds S) S else none)
    (hok : ∀ Z m S H d x, HRX X Z m S H → RP X H (LL Z m S) m d x → c d S = true → ok x H) (q : tD X f σ H Q) : tMT ok (RM X h) (tD X a) (tDs X g) σ H Q := by
  obtain ⟨Z, ρ, m, S, d, S', er, hr, e, k⟩ := q
  rw [hf] at e
  obtain ⟨x, S1, e1, e⟩ := bnd_ok e
  obtain ⟨hc, e⟩ := ite_ok e
  obtain ⟨ds, S2, e2, e⟩ := bnd_ok e
  obtain ⟨e5, rfl⟩ := lift_ok e
  exact ⟨Z, ρ, m, S, x, S1, er, hr, e1, fun m1 H1 v x1 hr1 r1 => ⟨hok _ _ _ _ _ _ hr1 r1 hc, Z, ρ, m1, S1, ds, _, er.mono x1.mono, hr1, e2, fun m2 H2 vs x2 hr2 r2 =>
    ⟨Z, m2, _, x, ds, d, hr2, r1.mono x2.mono, r2, e5, fun m3 H3 w x3 hr3 r3 => k m3 H3 w (x1.trans (x2.trans x3)) hr3 r3⟩⟩⟩
theorem pe_get1D (hu : X.A.units + 64 < cLine) (ho : PE X eo (tD X a)) (ha : PA X (e :: es) (tDs X g)) (mc : MC X eo "get" apos pos (e :: es)) (hs : noStars (e :: es) = true) (hf : ∀ ρ S, f ρ S = bnd (a ρ S) fun x S => if mfOk .get1 x S then bnd (g ρ S) fun ds S => lift (mfD .get1 x ds S) S else none) :
    PE X (.Call (.Attribute eo "get" apos) (e :: es) [] pos) (tD X f) :=
  PE.imp (pe_mT F.plainAttrs_dict F.slot_dict_get F.type_dict_get okD_is (mt_get1D hu) ho ha mc hs) fun σ H Q q => tMT.of hf (fun Z m S H d x hr r c => ⟨Z, m, S, d, hr, r, c⟩) q
theorem pe_get2D (hu : X.A.units + 64 < cLine) (ho : PE X eo (tD X a)) (ha : PA X (e :: es) (tDs X g)) (mc : MC X eo "get" apos pos (e :: es)) (hs : noStars (e :: es) = true) (hf : ∀ ρ S, f ρ S = bnd (a ρ S) fun x S => if mfOk .get2 x S then bnd (g ρ S) fun ds S => lift (mfD .get2 x ds S) S else none) :
    PE X (.Call (.Attribute eo "get" apos) (e :: es) [] pos) (tD X f) :=
  PE.imp (pe_mT F.plainAttrs_dict F.slot_dict_get F.type_dict_get okD_is (mt_get2D hu) ho ha mc hs) fun σ H Q q => tMT.of hf (fun Z m S H d x hr r c => ⟨Z, m, S, d, hr, r, c⟩) q
theorem pe_indexD (hu : X.A.units + 64 < cLine) (ho : PE X eo (tD X a)) (ha : PA X (e :: es) (tDs X g)) (mc : MC X eo "index" apos pos (e :: es)) (hs : noStars (e :: es) = true) (hf : ∀ ρ S, f ρ S = bnd (a ρ S) fun x S => if mfOk .index x S then bnd (g ρ S) fun ds S => lift (mfD .index x ds S) S else none) :
    PE X (.Call (.Attribute eo "index" apos) (e :: es) [] pos) (tD X f) :=
  PE.imp (pe_mT F.plainAttrs_list F.slot_list_index F.type_list_index okL_is (mt_indexD hu) ho ha mc hs) fun σ H Q q => tMT.of hf (fun Z m S H d x hr r c => by
    obtain ⟨ys, e⟩ := Option.isSome_iff_exists.mp (show (lstOf S d).isSome = true from c)
    obtain ⟨b, vs, h1, h2, _⟩ := lstOf_at hr r e
    exact ⟨b, vs, h1, h2⟩) q
end
end KL
end
section
set_option Elab.async false
set_option linter.all false
set_option maxRecDepth 100000
set_option maxHeartbeats 2000000
set_option autoImplicit false
/-! KLComp: comprehensions. -/
namespace KL
open PySem PySem.Spec PyProof.Rows L2

def setAll (σ : L2.St) : List Nat → List V → L2.St
  | i :: is, v :: vs => setAll (σ.set i (some v)) is vs
  | _, _ => σ
theorem wipe_set1 {i : Nat} {x : Option V} : ∀ {vs : List Nat} {σ : L2.St}, (wipe (σ.set i x) vs).set i none = (wipe σ vs).set i none
  | [], σ => by unfold wipe; rw [List.set_set]
  | v :: vs, σ => by
    unfold wipe
    by_cases h : v = i
    · subst h
      rw [List.set_set, List.set_set, wipe_set1]
    · rw [List.set_comm _ _ h, wipe_set1, List.set_comm _ _ (Ne.symm h)]
theorem wipe_set {i : Nat} {x : Option V} : ∀ {vs : List Nat} {σ : L2.St}, i ∈ vs → wipe (σ.set i x) vs = wipe σ vs
  | [], σ, h => by cases h
  | v :: vs, σ, h => by
    unfold wipe
    by_cases hv : i = v
    · subst hv; exact wipe_set1
    · rw [wipe_set ((List.mem_cons.mp h).resolve_left hv)]
theorem wipe_setAll {vs : List Nat} : ∀ {is : List Nat} {us : List V} {σ : L2.St}, (∀ i ∈ is, i ∈ vs) → wipe (setAll σ is us) vs = wipe σ vs
  | [], us, σ, _ => by cases us <;> rfl
  | i :: is, [], σ, _ => rfl
  | i :: is, u :: us, σ, h => by
    show wipe (setAll (σ.set i (some u)) is us) vs = _
    rw [wipe_setAll fun j hj => h j (List.mem_cons_of_mem _ hj), wipe_set (h i List.mem_cons_self)]
theorem wipe_idem {vs : List Nat} {σ : L2.St} : wipe (wipe σ vs) vs = wipe σ vs := by
  have key : ∀ {us : List Nat} {σ : L2.St}, (∀ i ∈ us, i ∈ vs) → wipe (wipe σ us) vs = wipe σ vs := by
    intro us
    induction us with
    | nil => intro σ _; rfl
    | cons u us ih =>
      intro σ h
      show wipe ((wipe σ us).set u none) vs = _
      rw [wipe_set (h u List.mem_cons_self), ih fun i hi => h i (List.mem_cons_of_mem _ hi)]
  exact key fun _ h => h
section
variable {X : Cx} {H : Hp} {L : Addr → Prop} {m : List Addr} {σ : L2.St} {ρ : Env}
theorem ER.wipe (h : ER X H L m σ ρ) : ∀ vs : List Nat, ER X H L m (L2.wipe σ vs) (wipeE ρ vs)
  | [] => h
  | v :: vs => by
    have ih := ER.wipe h vs
    unfold L2.wipe wipeE
    refine ⟨by rw [List.length_set, List.length_set]; exact ih.1, fun j e hj => ?_⟩
    by_cases hv : v = j
    · subst hv
      by_cases hl : v < (wipeE ρ vs).length
      · rw [List.getElem?_set_self hl] at hj; cases hj
      · rw [List.getElem?_eq_none (by rw [List.length_set]; omega)] at hj; cases hj
    · rw [List.getElem?_set_ne hv] at hj
      obtain ⟨w, h1, h2⟩ := ih.2 j e hj
      exact ⟨w, by rw [List.getElem?_set_ne hv]; exact h1, h2⟩
theorem ER.bindNs : ∀ {is : List Nat} {ds : List D} {vs : List V} {σ : L2.St} {ρ ρ' : Env}, ER X H L m σ ρ → RPs X H L m ds vs → KL.bindNs is ds ρ = some ρ' → ER X H L m (setAll σ is vs) ρ' ∧ vs.length = is.length
  | [], [], vs, σ, ρ, ρ', h, r, e => by
    cases (show some ρ = some ρ' from e)
    rw [show vs = [] from r]
    exact ⟨h, rfl⟩
  | [], _ :: _, _, _, _, _, _, _, e => by cases e
  | _ :: _, [], _, _, _, _, _, _, e => by cases e
  | i :: is, d :: ds, _, σ, ρ, ρ', h, r, e => by
    obtain ⟨v, vs, rfl, r1, r2⟩ := r
    obtain ⟨h1, h2⟩ := ER.bindNs (h.set r1) r2 (show KL.bindNs is ds (ρ.set i (some d)) = some ρ' from e)
    exact ⟨h1, by simp [h2]⟩
/-! ### a comprehension's target -/
def gNs (is : List Nat) : TGs := fun vs σ H Q => vs.length = is.length ∧ Q (setAll σ is vs) H
def gC (K : PySem.W.Frag) (is : List Nat) : TG := fun v σ H Q => match is with
  | [i] => Q (σ.set i (some v)) H
  | is => ∃ a xs, v = .ref a ∧ SqT K H a xs ∧ xs.length = is.length ∧ Q (setAll σ is xs) H
/-- names, by their slots -/
def nmsOk (X : Cx) : List Nat → List Expr → Prop
  | [], [] => True
  | i :: is, e :: es => (∃ x p, e = .Name x p ∧ X.N[i]? = some x ∧ Loc X.env.scope x ∧ (X.fn x = true ∨ X.env.scope.names.lookup x = some .local)) ∧ nmsOk X is es
  | _, _ => False
theorem pgs_ns (hN : X.N.Nodup) : ∀ {is : List Nat} {es : List Expr}, nmsOk X is es → PGs X es (gNs is)
  | [], [], _ => PGs.imp pgs_nil fun vs σ H Q ⟨h1, h2⟩ => by
    have : vs = [] := List.eq_nil_of_length_eq_zero h1
    subst this
    exact ⟨rfl, h2⟩
  | [], _ :: _, h => h.elim
  | _ :: _, [], h => h.elim
  | i :: is, _ :: es, ⟨⟨x, p, rfl, h1, h2, h3⟩, h4⟩ => PGs.imp (pgs_cons (pg_name hN h1 h2 h3) (pgs_ns hN h4) rfl) fun vs σ H Q ⟨g1, g2⟩ => by
    cases vs with
    | nil => simp at g1
    | cons v vs => exact ⟨v, vs, rfl, by simpa using g1, g2⟩
theorem nms_stars : ∀ {is : List Nat} {es : List Expr}, nmsOk X is es → noStars es = true ∧ es.length = is.length
  | [], [], _ => ⟨rfl, rfl⟩
  | [], _ :: _, h => h.elim
  | _ :: _, [], h => h.elim
  | i :: is, _ :: es, ⟨⟨x, p, rfl, _⟩, h4⟩ => ⟨(nms_stars (es := es) h4).1, by simp [(nms_stars (es := es) h4).2]⟩
/-- the target: a name, or several -/
def tgOk (X : Cx) (is : List Nat) (e : Expr) : Prop := match is with
  | [i] => nmsOk X [i] [e]
  | is => ∃ es k p, e = .Tuple es k p ∧ nmsOk X is es
theorem pg_C (hN : X.N.Nodup) (hc : X.calm = true) {is : List Nat} {e : Expr} (h : tgOk X is e) : PG X e (gC X.K is) := by
  by_cases h1 : ∃ i, is = [i]
  · obtain ⟨i, rfl⟩ := h1
    obtain ⟨⟨x, p, rfl, h1, h2, h3⟩, _⟩ := h
    exact PG.imp (pg_name hN h1 h2 h3) fun v σ H Q q => q
  · have h9 : ∃ es k p, e = .Tuple es k p ∧ nmsOk X is es := by
      match is, h, h1 with
      | [], h, _ => exact h
      | [i], _, h1 => exact (h1 ⟨i, rfl⟩).elim
      | _ :: _ :: _, h, _ => exact h
    obtain ⟨es, k, p, e9, h9⟩ := h9
    subst e9
    obtain ⟨g1, g2⟩ := nms_stars h9
    obtain ⟨i1, i2⟩ := assign_plain (env := X.env) g1
    refine PG.imp (pg_tup hc (pgs_ns hN h9) i2 i1) fun v σ H Q q => ?_
    have q : ∃ a xs, v = .ref a ∧ SqT X.K H a xs ∧ xs.length = is.length ∧ Q (setAll σ is xs) H := by
      match is, q, h1 with
      | [], q, _ => exact q
      | [i], _, h1 => exact (h1 ⟨i, rfl⟩).elim
      | _ :: _ :: _, q, _ => exact q
    obtain ⟨a, xs, e1, e2, e3, e4⟩ := q
    exact ⟨a, xs, e1, e2, by rw [g2]; exact e3, e3, e4⟩
/-- the target, by data -/
theorem gC_of {is : List Nat} {d : D} {v : V} {ρ' : Env} {Q : L2.St → Hp → Prop} (er : ER X H L m σ ρ) (r : RP X H L m d v) (e : bindTg is d ρ = some ρ') (k : ∀ σ', ER X H L m σ' ρ' → (∀ vs, (∀ i ∈ is, i ∈ vs) → wipe σ' vs = wipe σ vs) → Q σ' H) : gC X.K is v σ H Q := by
  by_cases h1 : ∃ i, is = [i]
  · obtain ⟨i, rfl⟩ := h1
    cases (show some (ρ.set i (some d)) = some ρ' from e)
    exact k _ (er.set r) fun vs h => wipe_set (h i List.mem_cons_self)
  · have e9 : ∃ ds, d = .tup ds ∧ KL.bindNs is ds ρ = some ρ' := by
      match is, e, h1 with
      | [], e, _ => cases d <;> first | (cases e; done) | exact ⟨_, rfl, e⟩
      | [i], _, h1 => exact (h1 ⟨i, rfl⟩).elim
      | _ :: _ :: _, e, _ => cases d <;> first | (cases e; done) | exact ⟨_, rfl, e⟩
    obtain ⟨ds, e8, e9⟩ := e9
    subst e8
    obtain ⟨a, vs, rfl, r1, r2⟩ := r
    obtain ⟨q1, q2⟩ := ER.bindNs er r2 e9
    have fin : ∃ a' xs, V.ref a = .ref a' ∧ SqT X.K H a' xs ∧ xs.length = is.length ∧ Q (setAll σ is xs) H := ⟨a, vs, rfl, r1.sq, q2, k _ q1 fun us h => wipe_setAll h⟩
    match is, fin, h1 with
    | [], fin, _ => exact fin
    | [i], _, h1 => exact (h1 ⟨i, rfl⟩).elim
    | _ :: _ :: _, fin, _ => exact fin
end
section
variable {P : Program} {w : World} {K : PySem.W.Frag} {Z : Addr → Prop} {m m' : List Addr} {S S' : Store} {H H2 : Hp} {p : Addr}
theorem HR.lessZ (h : HR P w K (ZP Z p) m S H) : HR P w K Z m S H :=
  ⟨h.len, h.nd, h.dom, fun a ha => h.z a (.inl ha), fun n o a h1 h2 h3 => (h.obj n o a h1 h2 h3).mono (Mono.less fun a z => z.elim (fun z => .inl (.inl z)) .inr) rfl⟩
theorem Ext.monoZ (x : Ext m S H m' S' H2) (hp : H p = none) : Mono H (LL Z m S) m H2 (LL (ZP Z p) m' S') m' := by
  have y := x.mono (Z := Z)
  refine ⟨y.pre, y.keep, fun b u hb n z => ?_⟩
  rcases z with (z | z) | z
  · exact n (.inl z)
  · rw [z, hp] at hb; cases hb
  · exact x.noL b u hb (fun q => n (.inr q)) z
theorem Ext.own (x : Ext m S H m' S' H2) (hp : H p = none) (o : HO) : Ext m S H m' S' (upd H2 p o) :=
  ⟨x.pre, fun b u hb n => by rw [upd_ne (ne_of_none hb hp)]; exact x.keep b u hb n, x.noL⟩
end
section
variable {X : Cx} {elt tg iter : Expr} {ifs : List Expr} {scope : Scope} {pos : Pos} {f : Env → Store → Out D} {w : Env → Store → Out (List D)} {q : Env → Store → Out Bool} {a : Env → Store → Out D} {is own : List Nat}
/-- a comprehension's reading -/
theorem lc_read (hown : ∀ i ∈ is, i ∈ own) (hf : ∀ ρ S, f ρ S = bnd (w ρ S) fun xs S => bnd (compL is q a (wipeE ρ own) xs S) fun ds S => if ds.length ≤ lineN then ok (.lst ds) S else none) {σ : L2.St} {H : Hp} {Q : VK} (h : tD X f σ H Q) :
    tLc (tI X w) (gC X.K is) (tQ X fun ρ S => noexc (q ρ S)) (tD X fun ρ S => noexc (a ρ S)) own σ H Q := by
  obtain ⟨Z, ρ, m, S, d, S', er, hr, e, k⟩ := h
  rw [hf] at e
  obtain ⟨xs, S1, e1, e⟩ := bnd_ok e
  obtain ⟨ds, S2, e2, e⟩ := bnd_ok e
  have hlen : ds.length ≤ lineN := by
    by_cases hl : ds.length ≤ lineN
    · exact hl
    · rw [if_neg hl] at e; cases e
  rw [if_pos hlen] at e
  obtain ⟨rfl, rfl⟩ := ok_ok e
  refine ⟨Z, ρ, m, S, xs, S1, er, hr, e1, fun m1 H1 J x1 hr1 wd p hp => ?_⟩
  have er1 := er.mono x1.mono
  refine ⟨fun i n H' => n = xs.length - i ∧ i ≤ xs.length ∧ ∃ m' S' done rest vs, Ext m1 S1 H1 m' S' H' ∧ HRX X (ZP Z p) m' S' H' ∧ H' p = some (.lst vs) ∧ RPs X H' (LL (ZP Z p) m' S') m' done vs ∧ compL is q a (wipeE ρ own) (xs.drop i) S' = some (.ok rest S2) ∧ done ++ rest = ds,
    ⟨xs.length, by simp, Nat.zero_le _, m1, S1, [], ds, [], hr1.ext hp _, hr1.addZ hp _, upd_same, rfl, e2, rfl⟩, ?_⟩
  rintro i n H2 ⟨rfl, hi, m2, S2', done, rest, vs, x2, hr2, hp2, r2, e3, hd⟩
  have mono2 := x2.monoZ (Z := Z) hp
  by_cases hlt : i < xs.length
  · refine .inr ⟨wd.go i H2 _ m2 hlt mono2, fun H' => ∃ m' S' done rest vs, Ext m1 S1 H1 m' S' H' ∧ HRX X (ZP Z p) m' S' H' ∧ H' p = some (.lst vs) ∧ RPs X H' (LL (ZP Z p) m' S') m' done vs ∧ compL is q a (wipeE ρ own) (xs.drop (i + 1)) S' = some (.ok rest S2) ∧ done ++ rest = ds,
      fun H' h => ⟨xs.length - (i + 1), by omega, rfl, hlt, h⟩, fun x H3 y => ?_⟩
    obtain ⟨h3, d, hd3, rd⟩ := wd.yld i H2 _ m2 x H3 hlt mono2 hr2.noL y
    rw [List.getElem?_eq_getElem hlt] at hd3
    cases hd3
    obtain ⟨x3, hr3⟩ := turn_ext hr2 h3
    have hp3 : H3 p = some (.lst vs) := x3.keep _ _ hp2 fun z => hr2.inZ z.mem
    rw [List.drop_eq_getElem_cons hlt] at e3
    replace e3 : (match bindTg is xs[i] (wipeE ρ own) with
      | none => none
      | some ρ' => bnd (noexc (q ρ' S2')) fun b S1 =>
        if b then bnd (noexc (a ρ' S1)) fun d S2 => bnd (compL is q a (wipeE ρ own) (xs.drop (i + 1)) S2) fun ds S3 => ok (d :: ds) S3
        else compL is q a (wipeE ρ own) (xs.drop (i + 1)) S1) = some (.ok rest S2) := e3
    cases eb : bindTg is xs[i] (wipeE ρ own) with
    | none => rw [eb] at e3; cases e3
    | some ρ' =>
      rw [eb] at e3
      obtain ⟨b, S4, e4, e5⟩ := bnd_ok e3
      have er3 : ER X H3 (LL (ZP Z p) m2 S2') m2 (wipe σ own) (wipeE ρ own) := ((er1.mono mono2).mono x3.mono).wipe own
      refine gC_of er3 rd eb fun σ' er4 hw => ⟨by rw [hw own hown, wipe_idem], ZP Z p, ρ', m2, S2', b, S4, er4, hr3, e4, fun m5 H5 x5 hr5 => ?_⟩
      have x25 := x2.trans (x3.trans x5)
      have hp5 : H5 p = some (.lst vs) := x5.keep _ _ hp3 fun z => hr3.inZ z.mem
      have r5 := (r2.mono x3.mono).mono x5.mono
      cases b with
      | false => exact ⟨m5, S4, done, rest, vs, x25, hr5, hp5, r5, e5, hd⟩
      | true =>
        obtain ⟨dy, S6, e6, e7⟩ := bnd_ok e5
        obtain ⟨rest', S7, e8, e9⟩ := bnd_ok e7
        obtain ⟨rfl, rfl⟩ := ok_ok e9
        refine ⟨ZP Z p, ρ', m5, S4, dy, S6, er4.mono x5.mono, hr5, e6, fun m6 H6 yv x6 hr6 r6 => ?_⟩
        have hp6 : H6 p = some (.lst vs) := x6.keep _ _ hp5 fun z => hr5.inZ z.mem
        have hl : vs.length < sizeLine := by
          rw [← r2.length, ← lineN_eq]
          have := congrArg List.length hd
          simp at this
          omega
        refine ⟨vs, hp6, hl, m6, S6, done ++ [dy], rest', vs ++ [yv], (x25.trans x6).own hp _, hr6.ownZ' _, upd_same, ?_, e8, by rw [← hd]; simp⟩
        exact ((r5.mono x6.mono).mono (mono_ownZ' _)).snoc (r6.mono (mono_ownZ' _))
  · have hn : i = xs.length := by omega
    subst hn
    rw [List.drop_length] at e3
    obtain ⟨rfl, rfl⟩ := ok_ok (show ok [] S2' = some (.ok rest S2) from e3)
    rw [List.append_nil] at hd
    subst hd
    refine .inl ⟨wd.stop H2 _ m2 mono2, k m2 H2 _ (x1.trans x2) hr2.lessZ ⟨p, vs, rfl, ⟨hp2, ?_⟩, r2.mono (Mono.less fun a z => z.elim (fun z => .inl (.inl z)) .inr)⟩⟩
    exact hr1.notZ hp hr2
theorem pts_D {qs : Env → Store → Out Bool} (h : (ifs = [] ∧ ∀ ρ S, qs ρ S = ok true S) ∨ ∃ c q', ifs = [c] ∧ PT X c (tQ X q') ∧ ∀ ρ S, qs ρ S = bnd (q' ρ S) fun b S => if b then ok true S else ok false S) : PTs X ifs (tQ X fun ρ S => noexc (qs ρ S)) := by
  rcases h with ⟨rfl, h⟩ | ⟨c, q', rfl, hc, h⟩
  · refine ⟨fun pins s σ H Q I hw => pts_nil.run pins s σ H Q I ?_⟩
    obtain ⟨Z, ρ, m, S, b, S', er, hr, e, k⟩ := hw
    have e := noexc_ok e
    rw [h] at e
    obtain ⟨rfl, rfl⟩ := ok_ok e
    exact k m H Ext.refl hr
  · refine ⟨fun pins s σ H Q I hw => (pts_one hc).run pins s σ H Q I ?_⟩
    obtain ⟨Z, ρ, m, S, b, S', er, hr, e, k⟩ := hw
    have e := noexc_ok e
    rw [h] at e
    obtain ⟨x, S1, e1, e⟩ := bnd_ok e
    have e2 : x = b ∧ S1 = S' := by cases x <;> exact ok_ok e
    obtain ⟨rfl, rfl⟩ := e2
    exact ⟨Z, ρ, m, S, x, S1, er, hr, e1, k⟩
theorem pe_noexc {e : Expr} (h : PE X e (tD X a)) : PE X e (tD X fun ρ S => noexc (a ρ S)) :=
  PE.imp h fun σ H Q ⟨Z, ρ, m, S, d, S', er, hr, e, k⟩ => ⟨Z, ρ, m, S, d, S', er, hr, noexc_ok e, k⟩
end
end KL
end
section
set_option Elab.async false
set_option linter.all false
set_option maxRecDepth 100000
set_option maxHeartbeats 2000000
set_option autoImplicit false
/-! KLPar: names = values, stored from the right; how a store is made. -/
namespace KL
open PySem PySem.Spec PyProof.Rows L2

def starred : Expr → Bool
  | .Starred .. => true
  | _ => false
/-- the names that a tuple's assignment stores from the right, by the scope -/
def parNames (sc : Scope) (ts : List Expr) : List Str := ts.filterMap fun
  | .Name id pos => if sc.names.lookup id == some .local && pos.line == (ts.head?.map (·.pos.line)).getD 0 then some id else none
  | _ => none
def swOf (sc : Scope) (ts vs : List Expr) : Option (Option (List Str)) :=
  if !(ts.length == 2 || ts.length == 3) || vs.length != ts.length then some none
  else if vs.any starred then some none
  else if (parNames sc ts).length != ts.length || (parNames sc ts).eraseDups.length != (parNames sc ts).length then some none
  else if vs.all (foldedForSure 8) then some none
  else if vs.all (constantsAlone 8) then none
  else some (some (parNames sc ts))
theorem sw_eq {env : PySem.Env} {ts vs : List Expr} {k k2 : Nat} {p p2 : Pos} {r : Option (List Str)} (hk : env.scope.kind = .function) (h : swOf env.scope ts vs = some r) : swappedStores [.Tuple ts k p] (.Tuple vs k2 p2) env = pure r := by
  have hb : env.blockKind = .function := by unfold Env.blockKind; rw [hk]; rfl
  unfold swOf at h
  unfold swappedStores
  simp only [hb]
  by_cases h1 : (!(ts.length == 2 || ts.length == 3) || vs.length != ts.length) = true
  · rw [if_pos h1] at h
    cases h
    exact if_pos (by rw [h1]; rfl)
  · rw [if_neg h1] at h
    refine (if_neg (by rw [Bool.not_eq_true] at h1 ⊢; rw [h1]; rfl)).trans ?_
    by_cases h2 : vs.any starred = true
    · rw [if_pos h2] at h
      cases h
      exact if_pos h2
    · rw [if_neg h2] at h
      refine (if_neg h2).trans ?_
      by_cases h3 : ((parNames env.scope ts).length != ts.length || (parNames env.scope ts).eraseDups.length != (parNames env.scope ts).length) = true
      · rw [if_pos h3] at h
        cases h
        exact if_pos h3
      · rw [if_neg h3] at h
        refine (if_neg h3).trans ?_
        by_cases h4 : vs.all (foldedForSure 8) = true
        · rw [if_pos h4] at h
          cases h
          exact if_pos h4
        · rw [if_neg h4] at h
          refine (if_neg h4).trans ?_
          by_cases h5 : vs.all (constantsAlone 8) = true
          · rw [if_pos h5] at h; cases h
          · rw [if_neg h5] at h
            cases h
            exact if_neg h5
theorem sw_no {env : PySem.Env} {tg e : Expr} (h : (∃ ts k p vs k2 p2, tg = .Tuple ts k p ∧ e = .Tuple vs k2 p2) → False) (h2 : (∃ ts p vs k2 p2, tg = .List ts p ∧ e = .Tuple vs k2 p2) → False) : swappedStores [tg] e env = pure none := by
  unfold swappedStores
  cases tg <;> first
    | rfl
    | (cases e <;> first
        | rfl
        | exact (h ⟨_, _, _, _, _, _, rfl, rfl⟩).elim
        | exact (h2 ⟨_, _, _, _, _, rfl, rfl⟩).elim)
section
variable {X : Cx} {pins : List (Addr × Obj)} {H : Hp}
theorem bind_all {M : Model} {A : Around} {E : Value → Shared → Prop} {Q : Unit → Shared → Prop} (hN : X.N.Nodup) : ∀ {is : List Nat} {xs : List Str} {vs : List V} {us : List Value} {σ : L2.St} {s : Shared}, Inv X pins σ H s → is.length = xs.length →
    (∀ (k i : Nat) (x : Str), is[k]? = some i → xs[k]? = some x → X.N[i]? = some x ∧ X.env.scope.names.lookup x = some .local) → Vals vs us → vs.length = is.length → (∀ s', Inv X pins (setAll σ is vs) H s' → Q () s') →
    wpAny M A (assignInOrder (xs.map fun x => bindName X.env x) us) Q E s
  | [], [], vs, us, σ, s, I, _, _, r, hl, q => by
    have : vs = [] := List.eq_nil_of_length_eq_zero hl
    subst this
    cases r
    exact assignInOrder_nil (q s I)
  | [], _ :: _, _, _, _, _, _, h, _, _, _, _ => by simp at h
  | _ :: _, [], _, _, _, _, _, h, _, _, _, _ => by simp at h
  | i :: is, x :: xs, vs, us, σ, s, I, h, hx, r, hl, q => by
    cases r with
    | nil => simp at hl
    | cons r1 r2 =>
      obtain ⟨g1, g2⟩ := hx 0 i x rfl rfl
      show wpAny M A (assignInOrder ((fun v => bindName X.env x v) :: xs.map fun x => bindName X.env x) _) Q E s
      refine assignInOrder_cons (wpAny_bindName (store_ok I hN g1 (.inl g2) r1 (fun s2 I2 => ?_) (.inr g2)))
      exact bind_all hN I2 (by simpa using h) (fun k j y e1 e2 => hx (k + 1) j y (by simpa using e1) (by simpa using e2)) r2 (by simpa using hl) q
theorem ps_parN {ts vs : List Expr} {kt k2 : Nat} {pt p2 pos : Pos} {ta : TA} {is : List Nat} {xs : List Str} (hc : X.calm = true) (hN : X.N.Nodup) (ha : PA X vs ta) (hw : swappedStores [.Tuple ts kt pt] (.Tuple vs k2 p2) X.env = pure (some xs))
    (hx : ∀ (k i : Nat) (x : Str), is[k]? = some i → xs[k]? = some x → X.N[i]? = some x ∧ X.env.scope.names.lookup x = some .local) (hl : is.length = xs.length) (h3 : is.length ≤ 1000) :
    PS X (.Assign [.Tuple ts kt pt] (.Tuple vs k2 p2) pos) (fun D σ H => ta σ H fun us H1 => us.length = is.length ∧ D.nx (setAll σ is.reverse us.reverse) H1) := by
  refine ⟨fun pins s σ H D I h => ?_⟩
  rw [exec_Assign_arm]
  refine wpAny_bind (wpAny_standAt ?_)
  show wpAny _ _ (swapsWithSole [.Tuple ts kt pt] (.Tuple vs k2 p2) pos.line X.env >>= _) _ _ s
  rw [show swapsWithSole [.Tuple ts kt pt] (.Tuple vs k2 p2) pos.line X.env = pure false from rfl]
  refine wpAny_bind (wpAny_pure ?_)
  rw [if_neg (by decide)]
  refine wpAny_bind (Tuple_ (thn (ha.run _ pins s σ H _ I h) fun us s1 ⟨vs', H1, I1, r1, hlen, q⟩ => ?_))
  have hul : us.length = is.length := by rw [← r1.length]; exact hlen
  refine wpAny_newObj_type ?_ (by show us.toArray.size ≤ sizeLine; rw [List.size_toArray, hul, sizeLine_eq]; omega)
  have I2 : Inv X pins σ H1 { s1 with heap := s1.heap.push { cls := .type "tuple", data := .seq us.toArray } } := I1.kept (t' := s1.toks) fun b o e => Heap.get?_push_of_some _ e
  rw [hw]
  refine wpAny_bind (wpAny_pure ?_)
  show wpAny (model X.prog X.w) X.A (do rule "assign.swapped-stores"; let items ← unpackItems (.ref s1.heap.objs.size) xs.length none; assignInOrder (xs.reverse.map fun n => bindName X.env n) items.reverse; pure Flow.next) _ _ _
  have hxl : xs.length = us.toArray.size := by rw [List.size_toArray, hul, hl]
  rw [hxl]
  refine wpAny_bind (wpAny_rule (wpAny_bind (unpackItems_tuple (I.ok.hd hc) (IsTup.new s1.heap _) fun h' hx' => ?_)))
  have I3 := I2.kept (h' := h') (t' := s1.toks) fun b o e => hx' b o (Nat.ne_of_lt (Heap.lt_size e)) e
  refine wpAny_bind ?_
  have rr : Vals vs'.reverse us.toArray.toList.reverse := by rw [List.toList_toArray]; exact r1.reverse
  refine bind_all hN I3 (is := is.reverse) (by simp [hl]) (fun k i x e1 e2 => ?_) rr (by simp [hlen]) fun s' I' => wpAny_pure ⟨_, H1, I', q⟩
  have k1 : k < is.length := by simpa using (List.getElem?_eq_some_iff.mp e1).1
  rw [List.getElem?_reverse k1] at e1
  rw [List.getElem?_reverse (by rw [← hl]; exact k1)] at e2
  rw [← hl] at e2
  exact hx _ i x e1 e2
theorem len2 {α : Type} {xs : List α} (h : xs.length = 2) : ∃ a b, xs = [a, b] := by
  match xs, h with
  | [a, b], _ => exact ⟨a, b, rfl⟩
theorem len3 {α : Type} {xs : List α} (h : xs.length = 3) : ∃ a b c, xs = [a, b, c] := by
  match xs, h with
  | [a, b, c], _ => exact ⟨a, b, c, rfl⟩
/-- .. by data -/
theorem ps_parD {ts vs : List Expr} {kt k2 : Nat} {pt p2 pos : Pos} {g : Env → Store → Out (List D)} {f : Env → Store → Option SR} {is : List Nat} {xs : List Str} (hc : X.calm = true) (hN : X.N.Nodup) (ha : PA X vs (tDs X g)) (hw : swappedStores [.Tuple ts kt pt] (.Tuple vs k2 p2) X.env = pure (some xs))
    (hx : ∀ (k i : Nat) (x : Str), is[k]? = some i → xs[k]? = some x → X.N[i]? = some x ∧ X.env.scope.names.lookup x = some .local) (hl : is.length = xs.length) (h23 : is.length = 2 ∨ is.length = 3) (hnd : is.Nodup)
    (hf : ∀ ρ S R, f ρ S = some R → (∃ ds S1 ρ', g ρ S = some (.ok ds S1) ∧ bindNs is ds ρ = some ρ' ∧ R = .nx ρ' S1) ∨ ∃ c p ρ' S', R = .exc c p ρ' S') : PS X (.Assign [.Tuple ts kt pt] (.Tuple vs k2 p2) pos) (tS X f) :=
  PS.imp (ps_parN hc hN ha hw hx hl (by omega)) fun D σ H ⟨Z, ρ, m, S, r, er, hr, ef, k⟩ => by
    rcases hf _ _ _ ef with ⟨ds, S1, ρ', e1, e2, rfl⟩ | ⟨c, p, ρ', S', rfl⟩
    · refine ⟨Z, ρ, m, S, ds, S1, er, hr, e1, fun m1 H1 us x1 hr1 r1 => ?_⟩
      have er1 := er.mono x1.mono
      obtain ⟨_, hlen⟩ := ER.bindNs er1 r1 e2
      refine ⟨hlen, k m1 H1 _ x1 hr1 ?_⟩
      rcases h23 with h | h
      · obtain ⟨i, j, rfl⟩ := len2 h
        obtain ⟨u, v, rfl⟩ := len2 (hlen.trans h)
        obtain ⟨d, e, rfl⟩ := len2 (r1.length.trans (hlen.trans h))
        obtain ⟨_, _, q, r2, r3⟩ := r1
        cases q
        obtain ⟨_, _, q, r4, r5⟩ := r3
        cases q
        cases (show some ((ρ.set i (some d)).set j (some e)) = some ρ' from e2)
        have hij : i ≠ j := by
          have := (List.nodup_cons.mp hnd).1
          simpa using this
        rw [List.set_comm _ _ hij]
        exact (er1.set r4).set r2
      · obtain ⟨i, j, l, rfl⟩ := len3 h
        obtain ⟨u, v, x, rfl⟩ := len3 (hlen.trans h)
        obtain ⟨d, e, c, rfl⟩ := len3 (r1.length.trans (hlen.trans h))
        obtain ⟨_, _, q, r2, r3⟩ := r1
        cases q
        obtain ⟨_, _, q, r4, r5⟩ := r3
        cases q
        obtain ⟨_, _, q, r6, r7⟩ := r5
        cases q
        cases (show some (((ρ.set i (some d)).set j (some e)).set l (some c)) = some ρ' from e2)
        have h1 := List.nodup_cons.mp hnd
        have h2 := List.nodup_cons.mp h1.2
        have hij : i ≠ j := fun z => h1.1 (by rw [z]; simp)
        have hil : i ≠ l := fun z => h1.1 (by rw [z]; simp)
        have hjl : j ≠ l := fun z => h2.1 (by rw [z]; simp)
        have e9 : ((ρ.set i (some d)).set j (some e)).set l (some c) = ((ρ.set l (some c)).set j (some e)).set i (some d) := by
          rw [List.set_comm (some d) (some e) hij, List.set_comm (some d) (some c) hil, List.set_comm (some e) (some c) hjl]
        rw [e9]
        exact ((er1.set r6).set r4).set r2
    · exact k.elim
end
end KL
end
section
set_option Elab.async false
set_option linter.all false
set_option maxRecDepth 100000
set_option maxHeartbeats 4000000
set_option autoImplicit false
/-! KLSet: sorted(set(a list of numbers)), sorted(a list of texts). -/
namespace KL
open PySem PySem.Spec PyProof.Rows L2
section
variable {P : Program} {w : World} {A : Around} {E : Value → Shared → Prop} {s : Shared}
abbrev emptySet (w : World) : Obj := { cls := .type "set", dict := none, data := .set #[] 0 (.fresh 0 0 (!w.params.followText "set-order")) }
set_option maxHeartbeats 3200000 in
theorem set_of_list {l : Addr} {xs : Array Value} (ns : List Int) {Q : Value → Shared → Prop} (hh : A.handled = none) (hl : s.heap.IsList l xs) (hi : IntsAre xs.toList ns) (hb : ns.length + 1 < scanBound)
    (q : ∀ (h' : Heap) (tk c : Nat), SetR w h' s.heap.objs.size (fun j => decide (j ∈ ns)) c → c ≤ ns.length → (∀ b o, s.heap.get? b = some o → h'.get? b = some o) → Q (.ref s.heap.objs.size) { s with heap := h', toks := tk }) :
    wpAny (model P w) A (call (.type "set") [.ref l]) Q E s := by
  have sz : xs.size = ns.length := by
    have z := IntsAre.length hi
    rwa [Array.length_toList] at z
  obtain ⟨mc, mt, hmro⟩ := F.called_set.mro
  have k1 := F.called_set.made
  have k2 := F.called_set.sub
  refine wpAny_call (codeAny_of_tree ?_)
  show wpAny _ _ (callAny (.type "set") _) _ _ _
  refine wpAny_pure ⟨Code.quiet_builtin _ (by decide +kernel), codeAny_builtin F.entry_type_call ?_⟩
  rw [Around.under_plain (weight_type_call_type "set" [.ref l] []) rfl]
  have k3 := F.called_set.notType
  have k4 := F.called_set.canCreate
  have k5 := F.typeCall_set_1 (.ref l)
  repeat (any_goals (first | assumption | wp_step))
  refine codeAny_mono (code_set_led1 (.ref l) (E := E) (Q₁ := fun ob s1 => ob = .ref s.heap.objs.size ∧ s1 = { s with heap := s.heap.push (emptySet w) }) ⟨rfl, rfl⟩) fun r s1 hr => ?_
  cases r with
  | error x => exact hr
  | ok fl =>
    cases fl with
    | ret ob =>
      obtain ⟨rfl, rfl⟩ := hr
      have g0 : (s.heap.push (emptySet w)).get? s.heap.objs.size = some (emptySet w) := Heap.get?_push_size _ rfl
      have t0 : Shared.TypeIs { s with heap := s.heap.push (emptySet w) } (.ref s.heap.objs.size) "set" := ⟨_, g0, rfl⟩
      have k6 := F.called_set.init.lookup
      have k7 := F.called_set.init.bind (.ref s.heap.objs.size)
      repeat (any_goals (first | assumption | wp_step))
      refine codeAny_mono (codeAny_call_builtin (R := wants (fun r s2 => r = .none ∧ ∃ h' tk c, s2 = { s with heap := h', toks := tk } ∧ SetR w h' s.heap.objs.size (fun j => decide (j ∈ ns)) c ∧ c ≤ ns.length ∧ (∀ b o, s.heap.get? b = some o → h'.get? b = some o)) E)
        F.called_set.init.plain F.entry_set_init (check_set_init_1 t0 ?_)) fun r2 s2 hr2 => ?_
      · obtain ⟨⟨oc, od, odt, osl⟩, g1, g2, k, g3⟩ := hl
        obtain rfl : oc = .type "list" := g2
        obtain rfl : odt = .seq xs k := g3
        have g4 : (s.heap.push (emptySet w)).get? l = some { cls := .type "list", dict := od, data := .seq xs k, slots := osl } := Heap.get?_push_of_some _ g1
        have j1 := F.sub_list_set
        have j2 := F.sub_list_frozenset
        have j3 : (Value.type "list" == Value.type "dict") = false := by decide
        have il : (s.heap.push (emptySet w)).IsList l xs := ⟨_, g4, rfl, k, rfl⟩
        unfold Builtin.«set.__init__» noKeywords Builtin.Frozenset.updateFrom
        generalize hPI : pyIter = PI
        wp_walk
        subst hPI
        refine wpAny_pyIter_list il ?_
        refine wpAny_bind (wpAny_runValue ?_)
        have lt : l < s.heap.objs.size := Heap.lt_size g1
        have h3 : A.in1.in1.in1.handled = none := by simp [hh]
        have sz1 : (s.heap.push (emptySet w)).objs.size = s.heap.objs.size + 1 := Heap.size_push ..
        have n1 : l ≠ (s.heap.push (emptySet w)).objs.size := by
          rw [sz1]; exact Nat.ne_of_lt (Nat.lt_succ_of_lt lt)
        have n2 : s.heap.objs.size ∉ [(s.heap.push (emptySet w)).objs.size, l] := by
          rw [sz1]
          intro z
          rcases List.mem_cons.mp z with z | z
          · exact absurd z (Nat.ne_of_lt (Nat.lt_succ_self _))
          · exact absurd (List.mem_singleton.mp z) (Nat.ne_of_gt lt)
        have vals : ∀ (i : Nat) (v : Value), xs[i]? = some v → ∃ k t, ns[i]? = some k ∧ v = .int k t := fun i v hv => by
          have i1 : i < ns.length := by rw [← sz]; exact (Array.getElem?_eq_some_iff.mp hv).1
          obtain ⟨t, e⟩ := PyProof.Rows.IntsAre.int_at hi i v (by rw [Array.getElem?_toList]; exact hv)
          exact ⟨ns[i], t, List.getElem?_eq_getElem i1, by rw [e, List.getD_eq_getElem?_getD, List.getElem?_eq_getElem i1]; rfl⟩
        refine set_update_ints ((Walks.list h3 _ l n1 xs).toS) s.heap.objs.size n2 ns sz hb vals (xs.size - 0) 0 _ (by omega) (Nat.zero_le _)
          ⟨⟨_, Heap.get?_push_size _ rfl, rfl, rfl⟩, (il.push _)⟩ ⟨0, Nat.le_refl 0, setR_new_at (Heap.get?_push_of_some _ g0)⟩ fun s3 c hm hc hS => ?_
        obtain ⟨h', gs, dr, tk, os⟩ := s3
        obtain rfl : gs = s.gens := hm.gens
        obtain rfl : dr = s.drawn := hm.drawn
        obtain rfl : os = s.os := hm.os
        show wpAny _ _ _ _ _ _
        refine wpAny_pure ?_
        show wpAny _ _ (ret Value.none) _ _ _
        rw [sz] at hc
        refine wpAny_pure ⟨rfl, h', tk, c, rfl, hS, hc, fun b o e => ?_⟩
        have lb : b < s.heap.objs.size := Heap.lt_size e
        refine hm.heap b o (fun z => ?_) (Heap.get?_push_of_some _ (Heap.get?_push_of_some _ e))
        rw [sz1] at z
        rcases List.mem_cons.mp z with z | z
        · exact absurd z (Nat.ne_of_lt lb)
        · exact absurd (List.mem_singleton.mp z) (Nat.ne_of_lt (Nat.lt_succ_of_lt lb))
      · cases r2 with
        | error x => exact hr2
        | ok fl2 =>
          cases fl2 with
          | ret r =>
            obtain ⟨rfl, h', tk, c, rfl, hS, hc, hk⟩ := hr2
            repeat (any_goals (first | assumption | wp_step))
            exact q _ _ _ hS hc hk
          | _ => exact hr2.elim
    | _ => exact hr.elim
end
/-! ### by data -/
theorem insI_mem (x : Int) : ∀ (ys : List Int) (z : Int), z ∈ insI x ys ↔ z = x ∨ z ∈ ys
  | [], z => by simp [insI]
  | y :: ys, z => by
    unfold insI
    by_cases h : x < y
    · rw [if_pos h]; simp
    · rw [if_neg h]
      by_cases h2 : x = y
      · rw [if_pos h2]; subst h2; simp
      · rw [if_neg h2, List.mem_cons, insI_mem x ys z, List.mem_cons]
        constructor
        · rintro (h | h | h)
          · exact .inr (.inl h)
          · exact .inl h
          · exact .inr (.inr h)
        · rintro (h | h | h)
          · exact .inr (.inl h)
          · exact .inl h
          · exact .inr (.inr h)
theorem insI_asc (x : Int) : ∀ {ys : List Int}, ys.Pairwise (· < ·) → (insI x ys).Pairwise (· < ·)
  | [], _ => by simp [insI]
  | y :: ys, h => by
    have h' := List.pairwise_cons.mp h
    unfold insI
    by_cases hx : x < y
    · rw [if_pos hx]
      refine List.pairwise_cons.mpr ⟨fun z hz => ?_, h⟩
      rcases List.mem_cons.mp hz with rfl | hz
      · exact hx
      · have := h'.1 z hz; omega
    · rw [if_neg hx]
      by_cases h2 : x = y
      · rw [if_pos h2]; exact h
      · rw [if_neg h2]
        refine List.pairwise_cons.mpr ⟨fun z hz => ?_, insI_asc x h'.2⟩
        rcases (insI_mem x ys z).mp hz with rfl | hz
        · omega
        · exact h'.1 z hz
theorem sortI_mem : ∀ (xs : List Int) (z : Int), z ∈ sortI xs ↔ z ∈ xs
  | [], z => by simp [sortI]
  | x :: xs, z => by
    show z ∈ insI x (sortI xs) ↔ _
    rw [insI_mem, sortI_mem xs z, List.mem_cons]
theorem sortI_asc : ∀ (xs : List Int), (sortI xs).Pairwise (· < ·)
  | [] => List.Pairwise.nil
  | x :: xs => insI_asc x (sortI_asc xs)
theorem asc_eq : ∀ {xs ys : List Int}, xs.Pairwise (· < ·) → ys.Pairwise (· < ·) → (∀ z, z ∈ xs ↔ z ∈ ys) → xs = ys
  | [], [], _, _, _ => rfl
  | [], y :: ys, _, _, h => by have := (h y).mpr List.mem_cons_self; simp at this
  | x :: xs, [], _, _, h => by have := (h x).mp List.mem_cons_self; simp at this
  | x :: xs, y :: ys, h1, h2, h => by
    have a1 := List.pairwise_cons.mp h1
    have a2 := List.pairwise_cons.mp h2
    have e : x = y := by
      rcases List.mem_cons.mp ((h x).mp List.mem_cons_self) with e | e
      · exact e
      · rcases List.mem_cons.mp ((h y).mpr List.mem_cons_self) with e' | e'
        · exact e'.symm
        · have := a1.1 y e'
          have := a2.1 x e
          omega
    subst e
    rw [asc_eq a1.2 a2.2 fun z => ?_]
    constructor
    · intro hz
      rcases List.mem_cons.mp ((h z).mp (List.mem_cons_of_mem _ hz)) with e | e
      · have := a1.1 z hz; omega
      · exact e
    · intro hz
      rcases List.mem_cons.mp ((h z).mpr (List.mem_cons_of_mem _ hz)) with e | e
      · have := a2.1 z hz; omega
      · exact e
theorem set_len {w : World} {h : Heap} {a : Addr} {S : Int → Bool} {n : Nat} (R : SetR w h a S n) {xs : List Int} (hx : xs.Pairwise (· < ·)) (hm : ∀ k, S k = true ↔ k ∈ xs) : n = xs.length := by
  obtain ⟨o, es, ep, t, h1, h2, h3, h4, h5, h6, h7, h8, h9, _⟩ := R
  have nd : xs.Nodup := hx.imp (fun h => by omega)
  have p : (es.toList.map keyOf).Perm xs := by
    refine (List.perm_ext_iff_of_nodup h5 nd).mpr fun k => ?_
    rw [← h6 k, hm k]
  have := p.length_eq
  rw [List.length_map, Array.length_toList] at this
  omega
section
variable {X : Cx} {e : Expr} {a f : Env → Store → Out D} {p p2 pos pos2 : Pos}
theorem pe_sortSet (hc : X.calm = true) (hg : Gl X "sorted") (hm : X.mg "sorted" = none) (hg2 : Gl X "set") (hm2 : X.mg "set" = none) (he : PE X e (tD X a)) (hn : notStar e = true) (hf : ∀ ρ S, f ρ S = bnd (a ρ S) fun d S => lift (bfD .sortSet [d] S) S) :
    PE X (.Call (.Name "sorted" p) [.Call (.Name "set" p2) [e] [] pos2] [] pos) (tD X f) := by
  -- the set, laid and tracked
  have hset : CallR X (.type "set") (fun xs H Q => ∃ b ns, xs = [.ref b] ∧ SqL X.K H b (ns.map V.int) ∧ ns.length ≤ 4000 ∧ ∀ q c, H q = none → c ≤ ns.length → c = (sortI ns).length → Q (.ref q) (upd H q (SetO X.w q (fun j => decide (j ∈ ns)) c))) := by
    intro pins s σ H xs us Q I r h
    obtain ⟨b, ns, rfl, hb, hl, q⟩ := h
    rw [Vals.ref1 r]
    obtain ⟨its, rv, pl, hz⟩ := I.list hb
    refine set_of_list ns (I.ok.hd hc) pl.isList (by rw [List.toList_toArray]; exact rv.ints) (by unfold scanBound; omega) fun h' tk c R hcl hk => ?_
    have hn : H s.heap.objs.size = none := I.hok.fresh (Nat.le_refl _)
    refine ⟨.ref s.heap.objs.size, _, I.laid (t' := tk) hk (Nat.le_refl _) (setO_new R), rfl, q _ c hn hcl ?_⟩
    exact set_len R (sortI_asc ns) fun k => by rw [decide_eq_true_eq, sortI_mem]
  have h1 : PE X (.Call (.Name "set" p2) [e] [] pos2) _ := pe_callTy hset hg2 hm2 (by first | rfl | decide +kernel) (pa_cons he pa_nil (star_cons hn)) (by decide) (by decide) (star_cons hn) rfl
  refine PE.imp (pe_callB (cr_sortedSet hc) hg hm (by first | rfl | decide +kernel) (pa_cons h1 pa_nil rfl) (by decide) (by decide) rfl rfl) fun σ H Q ⟨Z, ρ, m, S, d, S', er, hr, ef, k⟩ => ?_
  rw [hf] at ef
  obtain ⟨x, S1, e1, ef⟩ := bnd_ok ef
  obtain ⟨e2, rfl⟩ := lift_ok ef
  refine ⟨Z, ρ, m, S, x, S1, er, hr, e1, fun m1 H1 v x1 hr1 r1 => ?_⟩
  replace e2 : (match lstOf S1 x with
    | some xs => match intsOf xs with
      | some is => if is.length ≤ 4000 then (if (sortI is).length < 64 then some (D.lst ((sortI is).map .int)) else none) else none
      | none => none
    | none => none) = some d := e2
  cases q1 : lstOf S1 x with
  | none => rw [q1] at e2; cases e2
  | some ys =>
    rw [q1] at e2
    replace e2 : (match intsOf ys with
      | some is => if is.length ≤ 4000 then (if (sortI is).length < 64 then some (D.lst ((sortI is).map .int)) else none) else none
      | none => none) = some d := e2
    cases q2 : intsOf ys with
    | none => rw [q2] at e2; cases e2
    | some is =>
      rw [q2] at e2
      replace e2 : (if is.length ≤ 4000 then (if (sortI is).length < 64 then some (D.lst ((sortI is).map .int)) else none) else none) = some d := e2
      by_cases l1 : is.length ≤ 4000
      · rw [if_pos l1] at e2
        by_cases l2 : (sortI is).length < 64
        · rw [if_pos l2] at e2
          cases e2
          obtain ⟨b, vs, rfl, g1, g2⟩ := lstOf_at hr1 r1 q1
          rw [ints_V q2 g2] at g1
          refine ⟨b, is, rfl, .inl (.inl g1), l1, fun q c hq hc1 hc2 => ?_⟩
          refine ⟨q, _, c, rfl, upd_same, by omega, fun ns r ha hm hl hr2 => ?_⟩
          have e9 : ns = sortI is := asc_eq ha (sortI_asc is) fun z => by rw [hm z, decide_eq_true_eq, sortI_mem]
          rw [e9]
          have hr3 := hr1.fresh hq (SetO X.w q (fun j => decide (j ∈ is)) c)
          exact k m1 _ _ (x1.trans ((hr1.ext hq _).trans (hr3.ext hr2 _))) (hr3.fresh hr2 _) (hr3.lst hr2 (ints_reps _))
        · rw [if_neg l2] at e2; cases e2
      · rw [if_neg l1] at e2; cases e2
end
end KL
end
section
set_option Elab.async false
set_option linter.all false
set_option maxRecDepth 100000
set_option maxHeartbeats 4000000
set_option autoImplicit false
/-! KLCk: whether a written expression is the one of the small language. -/
namespace KL
open PySem PySem.Spec PyProof.Rows L2

structure Gam where
  N : List Str
  sc : Scope
  fnl : Bool
  fnm : Nat → Option (Str × Nat)
  gnm : Nat → Option Str
def Gam.kd (Γ : Gam) (x : Str) : Option NameKind := Γ.sc.names.lookup x
def visB (Γ : Gam) (x : Str) : Bool := match Γ.kd x with
  | some .local => true
  | some .cell => true
  | some .free => true
  | _ => false
def locB (Γ : Gam) (x : Str) : Bool := match Γ.kd x with
  | some .local => true
  | some .cell => Γ.fnl
  | _ => false
def glB (Γ : Gam) (x : Str) : Bool := match Γ.kd x with
  | some .globalImplicit => true
  | _ => false
def nmB (x : Str) : Bool := decide ((x == ("__debug__" : Str)) = false) && decide ((x == ("__classdict__" : Str)) = false)
/-- the name that stands in slot i -/
def slotB (Γ : Gam) (i : Nat) (x : Str) : Bool := decide (Γ.N[i]? = some x)
def blts : List Str := ["len", "abs", "min", "max", "any", "all", "int", "str", "list", "tuple", "isinstance", "sorted", "set", "dict", "range", "zip", "enumerate", "bool"]
def gbB (Γ : Gam) (x y : Str) : Bool := decide (x = y) && glB Γ x
def bfNm : BF → Option Str
  | .len => some "len" | .abs => some "abs" | .min2 => some "min" | .max2 => some "max" | .minL => some "min" | .maxL => some "max" | .any => some "any" | .all => some "all"
  | .intF => some "int" | .strF => some "str" | .listF => some "list" | .tupF => some "tuple" | _ => none
def isNm : BF → Option String
  | .isInt => some "int" | .isBool => some "bool" | .isStr => some "str" | .isTup => some "tuple" | _ => none
def notSet : Expr → Bool
  | .Set _ _ _ => false
  | _ => true
def notComp : Expr → Bool
  | .ListComp _ _ _ _ => false
  | .SetComp _ _ _ _ => false
  | .DictComp _ _ _ _ _ => false
  | _ => true
def notList : Expr → Bool
  | .List _ _ => false
  | _ => true
def ownP (Γ : Gam) (own : List Nat) : List (Str × Nat) := own.map fun i => (Γ.N.getD i "", i)
/-- within a comprehension's block -/
def Gam.blk (Γ : Gam) (scope : Scope) : Gam := { Γ with sc := relS scope Γ.sc, fnl := false }
def nmsB (Γ : Gam) : List Nat → List Expr → Bool
  | [], [] => true
  | i :: is, .Name x _ :: es => slotB Γ i x && locB Γ x && nmsB Γ is es
  | _, _ => false
def tgB (Γ : Gam) (is : List Nat) (e : Expr) : Bool := match is with
  | [i] => nmsB Γ [i] [e]
  | is => match e with
    | .Tuple es _ _ => nmsB Γ is es
    | _ => false
def dkB : List Txt → List (Option Expr) → Bool
  | [], [] => true
  | k :: ks, some (.Constant (.str x) _ _) :: es => decide (x = strV k) && dkB ks es
  | _, _ => false
mutual
def ckE (Γ : Gam) : ME → Expr → Bool
  | .var i, e => match e with
    | .Name x _ => slotB Γ i x && visB Γ x && nmB x
    | _ => false
  | .gcon g, e => match e with
    | .Name x _ => decide (Γ.gnm g = some x) && glB Γ x && nmB x
    | _ => false
  | .int i, e => match e with
    | .Constant (.int j) _ _ => decide (i = j)
    | _ => false
  | .bl i, e => match e with
    | .Constant (.bool j) _ _ => decide (i = j)
    | _ => false
  | .non, e => match e with
    | .Constant .none _ _ => true
    | _ => false
  | .str s, e => match e with
    | .Constant (.str x) _ _ => decide (x = strV s)
    | _ => false
  | .tup es, e => match e with
    | .Tuple xs _ _ => decide (es.length ≤ 1000) && ckEs Γ es xs
    | _ => false
  | .lst es, e => match e with
    | .List xs _ => decide (es.length ≤ 1000) && ckEs Γ es xs
    | _ => false
  | .newL es, e => match e with
    | .List xs _ => decide (es.length ≤ 1000) && ckEs Γ es xs
    | _ => false
  | .newT, e => match e with
    | .Dict [] [] _ => true
    | _ => false
  | .newS ks es, e => match e with
    | .Dict keys xs _ => (match keys, xs, ks, es with
      | [], [], [], [] => true
      | keys, xs, ks, es => dkB ks keys && decide (ks.length ≤ 15) && decide (1 ≤ ks.length) && decide (ks.length = es.length)) && ckEs Γ es xs
    | _ => false
  | .dispS ks es, e => match e with
    | .Dict keys xs _ => dkB ks keys && decide (ks.length ≤ 15) && decide (1 ≤ ks.length) && decide (ks.length = es.length) && ckEs Γ es xs
    | _ => false
  | .bin op a b, e => match e with
    | .BinOp x o y _ => decide (o = bopOf op) && ckE Γ a x && ckE Γ b y
    | _ => false
  | .neg a, e => match e with
    | .UnaryOp .USub x _ => ckE Γ a x
    | _ => false
  | .notE a, e => match e with
    | .UnaryOp .Not x _ => ckE Γ a x
    | _ => false
  | .cmp op a b, e => match e with
    | .Compare x [o] [y] _ => decide (o = copOf op) && notSet y && ckE Γ a x && ckE Γ b y
    | _ => false
  | .chain op op' a b c, e => match e with
    | .Compare x [o, o'] [y, z] _ => decide (o = copOf op) && decide (o' = copOf op') && notSet z && ckE Γ a x && ckE Γ b y && ckE Γ c z
    | _ => false
  | .andE es, e => match e with
    | .BoolOp .And xs _ => ckEs Γ es xs
    | _ => false
  | .orE es, e => match e with
    | .BoolOp .Or xs _ => ckEs Γ es xs
    | _ => false
  | .ife c a b, e => match e with
    | .IfExp z x y _ => ckQ Γ c z && ckE Γ a x && ckE Γ b y
    | _ => false
  | .idx a b, e => match e with
    | .Subscript x y _ => notSlice y && ckE Γ a x && ckE Γ b y
    | _ => false
  | .slc a lo hi, e => match e with
    | .Subscript x (.Slice l h none _) _ => ckE Γ a x && ckO Γ lo l && ckO Γ hi h
    | _ => false
  | .call f es, e => match e with
    | .Call (.Name x _) xs [] _ => decide (Γ.fnm f = some (x, es.length)) && glB Γ x && nmB x && noStars xs && ckEs Γ es xs
    | _ => false
  | .callB f es, e => match e with
    | .Call (.Name x _) xs [] _ => match bfNm f with
      | some n => gbB Γ x n && noStars xs && !xs.isEmpty && ckEs Γ es xs
      | none => match isNm f, xs with
        | some n, [y, .Name z _] => gbB Γ x "isinstance" && gbB Γ z (Str.ofString n) && ckEs Γ es [y]
        | _, _ => false
    | _ => false
  | .meth f o es, e => match e with
    | .Call (.Attribute y nm ap) xs [] pos => (match f with
      | .get1 => decide (nm = "get")
      | .get2 => decide (nm = "get")
      | .index => decide (nm = "index")
      | _ => false) && notCall y && (ap.endLine == pos.line) && noStars xs && decide (1 ≤ xs.length) && decide (xs.length < 10) && ckE Γ o y && ckEs Γ es xs
    | _ => false
  | .lrange es, e => false
  | .trange es, e => false
  | .sortSet a, e => match e with
    | .Call (.Name x _) [.Call (.Name z _) [y] [] _] [] _ => gbB Γ x "sorted" && gbB Γ z "set" && notStar y && ckE Γ a y
    | _ => false
  | .copyS a, e => match e with
    | .Call (.Name x _) [y] [] _ => gbB Γ x "dict" && notStar y && ckE Γ a y
    | _ => false
  | .append o a, e => match e with
    | .Call (.Attribute y nm ap) [x] [] pos => decide (nm = "append") && notCall y && (ap.endLine == pos.line) && notStar x && ckE Γ o y && ckE Γ a x
    | _ => false
  | .pop o, e => match e with
    | .Call (.Attribute y nm ap) [] [] pos => decide (nm = "pop") && notCall y && (ap.endLine == pos.line) && ckE Γ o y
    | _ => false
  | .frz a, e => ckE Γ a e
  | .comp own elt tg it ifs, e => match e with
    | .ListComp x [⟨t, i, fs, 0⟩] scope _ => blkC Γ.N Γ.sc scope (ownP Γ own) && decide (∀ j ∈ tg, j ∈ own) && tgB (Γ.blk scope) tg t && notSet i && ckI Γ it t i && ckE (Γ.blk scope) elt x && ckF (Γ.blk scope) ifs fs
    | _ => false
  | .dcomp _ _ _ _ _ _, e => false
def ckEs (Γ : Gam) : List ME → List Expr → Bool
  | [], xs => xs.isEmpty
  | e :: es, xs => match xs with
    | x :: xs => notStar x && ckE Γ e x && ckEs Γ es xs
    | [] => false
def ckO (Γ : Gam) : Option ME → Option Expr → Bool
  | none, x => x.isNone
  | some e, x => match x with
    | some x => ckE Γ e x
    | none => false
def ckQ (Γ : Gam) : MQ → Expr → Bool
  | .v a, e => (match a, e with
    | .cmp _ _ _, .Compare _ _ _ _ => true
    | .chain _ _ _ _ _, .Compare _ _ _ _ => true
    | _, e => plainTest e) && ckE Γ a e
  | .and qs, e => match e with
    | .BoolOp .And xs _ => !xs.isEmpty && ckQs Γ qs xs
    | _ => false
  | .or qs, e => match e with
    | .BoolOp .Or xs _ => !xs.isEmpty && ckQs Γ qs xs
    | _ => false
  | .not q, e => match e with
    | .UnaryOp .Not x _ => ckQ Γ q x
    | _ => false
def ckQs (Γ : Gam) : List MQ → List Expr → Bool
  | [], xs => xs.isEmpty
  | q :: qs, xs => match xs with
    | x :: xs => ckQ Γ q x && ckQs Γ qs xs
    | [] => false
/-- a comprehension's tests: none, or one -/
def ckF (Γ : Gam) : List MQ → List Expr → Bool
  | [], xs => xs.isEmpty
  | q :: qs, xs => match xs with
    | [x] => ckQ Γ q x && qs.isEmpty
    | _ => false
def ckI (Γ : Gam) : MI → Expr → Expr → Bool
  | .it a, _, e => ckE Γ a e
  | .rng es, _, e => match e with
    | .Call (.Name x _) xs [] _ => gbB Γ x "range" && (match es, xs with
      | [_], [_] => true
      | [_, _], [_, _] => true
      | _, _ => false) && noStars xs && ckEs Γ es xs
    | _ => false
  | .zip es, t, e => match t, e with
    | .Tuple _ _ _, .Call (.Name x _) [y, z] [] _ => gbB Γ x "zip" && noStars [y, z] && ckEs Γ es [y, z]
    | _, _ => false
  | .enm a, t, e => match t, e with
    | .Tuple _ _ _, .Call (.Name x _) [y] [] _ => gbB Γ x "enumerate" && notStar y && ckE Γ a y
    | _, _ => false
end
end KL
end
section
set_option Elab.async false
set_option linter.all false
set_option maxRecDepth 100000
set_option maxHeartbeats 4000000
set_option autoImplicit false
/-! KLSnd: a checked expression runs as the small language says. -/
namespace KL
open PySem PySem.Spec PyProof.Rows L2

structure CtxOk (X : Cx) (Γ : Gam) (G : GCon) (C : CallF) : Prop where
  hN : X.N = Γ.N
  nd : X.N.Nodup
  sc : X.env.scope = Γ.sc
  kd : Γ.sc.kind = .function
  fn : Γ.fnl = true → ∀ x, X.fn x = true
  calm : X.calm = true
  hu : X.A.units + 64 < cLine
  xe : X.xe = fun _ _ => False
  blt : ∀ b ∈ blts, X.mg b = none
  gc : ∀ g x d, Γ.gnm g = some x → G g = some d → ∃ u v, X.mg x = some u ∧ RelV v u ∧ ∀ H L m, RP X H L m d v
  fns : ∀ f x n, Γ.fnm f = some (x, n) → ∃ (k : Nat) (fa : Addr) (fd : FuncData) (ps : List Str), Room k X.A ∧ X.mg x = some (.ref fa) ∧ PySem.W.keepIn X.K (.ref fa) = true ∧ Binds X.K fd ps [] ∧
    FnOk X.prog X.w X.K X.mg X.base CX0 k fa fd ps (spK X.prog X.w X.K C n f)
section
variable {X : Cx} {Γ : Gam} {G : GCon} {C : CallF}
theorem CtxOk.vis (h : CtxOk X Γ G C) {x : Str} (v : visB Γ x = true) : Vis X.env.scope x := by
  unfold visB Gam.kd at v
  unfold Vis
  rw [h.sc]
  split at v <;> first | exact .inl (by assumption) | exact .inr (.inl (by assumption)) | exact .inr (.inr (by assumption)) | cases v
theorem CtxOk.loc (h : CtxOk X Γ G C) {x : Str} (v : locB Γ x = true) : L2.Loc X.env.scope x ∧ (X.fn x = true ∨ X.env.scope.names.lookup x = some .local) := by
  unfold locB Gam.kd at v
  unfold L2.Loc
  rw [h.sc]
  split at v
  · rename_i e; exact ⟨.inl e, .inr e⟩
  · rename_i e; exact ⟨.inr e, .inl (h.fn v x)⟩
  · cases v
theorem CtxOk.gl (h : CtxOk X Γ G C) {x : Str} (v : glB Γ x = true) : Gl X x := by
  unfold glB Gam.kd at v
  show X.env.scope.names.lookup x = _
  rw [h.sc]
  split at v
  · assumption
  · cases v
theorem CtxOk.gb (h : CtxOk X Γ G C) {x y : Str} (v : gbB Γ x y = true) : x = y ∧ Gl X y := by
  unfold gbB at v
  rw [Bool.and_eq_true, decide_eq_true_eq] at v
  obtain ⟨rfl, g⟩ := v
  exact ⟨rfl, h.gl g⟩
theorem CtxOk.slot (h : CtxOk X Γ G C) {i : Nat} {x : Str} (v : slotB Γ i x = true) : X.N[i]? = some x := by
  unfold slotB at v
  rw [h.hN]
  exact of_decide_eq_true v
theorem nmB_ok {x : Str} (h : nmB x = true) : (x == ("__debug__" : Str)) = false ∧ (x == ("__classdict__" : Str)) = false := by
  unfold nmB at h
  rw [Bool.and_eq_true, decide_eq_true_eq, decide_eq_true_eq] at h
  exact h
theorem CtxOk.blk (h : CtxOk X Γ G C) {scope : Scope} {own : List (Str × Nat)} (ok : BlkOk X.N X.env.scope scope own) (s : Shared) (H : Hp) (cl : List (Str × Addr)) (c : Addr) (fp : List Addr) : CtxOk (X.blk s H scope (compEnvC scope cl c X.env) fp) (Γ.blk scope) G C where
  hN := h.hN
  nd := h.nd
  sc := by
    show relS scope X.env.scope = relS scope Γ.sc
    rw [h.sc]
  kd := ok.kind
  fn := fun z => nomatch z
  calm := h.calm
  hu := h.hu
  xe := rfl
  blt := h.blt
  gc := h.gc
  fns := h.fns
theorem CtxOk.nms (h : CtxOk X Γ G C) : ∀ {is : List Nat} {es : List Expr}, nmsB Γ is es = true → nmsOk X is es
  | [], [], _ => trivial
  | [], _ :: _, v => by cases v
  | _ :: _, [], v => by cases v
  | i :: is, e :: es, v => by
    cases e <;> first | (cases v; done) | skip
    rename_i x p
    have v : (slotB Γ i x && locB Γ x && nmsB Γ is es) = true := v
    simp only [Bool.and_eq_true] at v
    obtain ⟨l1, l2⟩ := h.loc v.1.2
    exact ⟨⟨x, p, rfl, h.slot v.1.1, l1, l2⟩, h.nms v.2⟩
theorem CtxOk.tg (h : CtxOk X Γ G C) {is : List Nat} {e : Expr} (v : tgB Γ is e = true) : tgOk X is e := by
  match is, v with
  | [i], v => exact h.nms v
  | [], v =>
    cases e <;> first | (cases v; done) | skip
    exact ⟨_, _, _, rfl, h.nms v⟩
  | _ :: _ :: _, v =>
    cases e <;> first | (cases v; done) | skip
    exact ⟨_, _, _, rfl, h.nms v⟩
theorem evalEs_len : ∀ {es : List ME} {ρ : Env} {S S' : Store} {ds : List D}, evalEs G C es ρ S = some (.ok ds S') → ds.length = es.length
  | [], ρ, S, S', ds, e => by obtain ⟨rfl, rfl⟩ := ok_ok e; rfl
  | e :: es, ρ, S, S', ds, h => by
    obtain ⟨d, S1, e1, h⟩ := bnd_ok (show bnd (evalE G C e ρ S) (fun d S => bnd (evalEs G C es ρ S) fun ds S => ok (d :: ds) S) = some (.ok ds S') from h)
    obtain ⟨ds', S2, e2, h⟩ := bnd_ok h
    obtain ⟨rfl, rfl⟩ := ok_ok h
    simp [evalEs_len e2]
theorem evalEs_evs : ∀ (es : List ME) (ρ : Env) (S : Store), evalEs G C es ρ S = evs (es.map fun e => evalE G C e) ρ S
  | [], ρ, S => rfl
  | e :: es, ρ, S => by
    show bnd (evalE G C e ρ S) (fun d S => bnd (evalEs G C es ρ S) fun ds S => ok (d :: ds) S) = bnd (evalE G C e ρ S) (fun d S => bnd (evs (es.map fun e => evalE G C e) ρ S) fun ds S => ok (d :: ds) S)
    congr 1
    funext d S
    rw [evalEs_evs es ρ S]
theorem and3 {a b c : Bool} (h : (a && b && c) = true) : a = true ∧ b = true ∧ c = true := by
  cases a <;> cases b <;> cases c <;> simp_all
theorem and2 {a b : Bool} (h : (a && b) = true) : a = true ∧ b = true := by
  cases a <;> cases b <;> simp_all
theorem noSet_mark {o : CmpOp} {e : Expr} (h : notSet e = true) : behindInMarks o e = false := by
  cases e <;> first | rfl | cases h
theorem noSet_last {o o' : CmpOp} {b e : Expr} (h : notSet e = true) : lastMarks [o, o'] [b, e] = false := noSet_mark h
theorem noSet_fold {e : Expr} {env : PySem.Env} (h : notSet e = true) (x : Value) : foldedSetIterable e env x = pure x := by
  cases e <;> first | rfl | cases h
/-- a truth of a whole row -/
theorem isEmpty_eq {α : Type} {xs : List α} (h : xs.isEmpty = true) : xs = [] := List.isEmpty_iff.mp h
def isB (f : BF) (T : String) : Prop := isNm f = some T
theorem isi_D {f : BF} {T : String} (h : isNm f = some T) {Z : Addr → Prop} : CallR X (.builtin "isinstance") (fun xs H Q => ∃ x, xs = [x, .ty T] ∧ ∃ m S d r, HRX X Z m S H ∧ RP X H (LL Z m S) m d x ∧ bfD f [d] S = some r ∧ KD X Z m S H r S Q) := by
  intro pins s σ H xs us Q I r hq
  obtain ⟨x, rfl, m, S, d, res, hr, rd, e, k⟩ := hq
  have go : ∀ (t : String) (b : Bool), TyX X.K H x (.type t) → kitB t T = some b → Q (.bl b) H → wpAny (model X.prog X.w) X.A (call (.builtin "isinstance") us) (EP X pins σ Q) X.xe s := fun t b ht hk q =>
    call_isi pins s σ H _ us Q I r ⟨x, .ty T, .type t, .type T, b, rfl, .ty T, ht, kit_ty hk, q⟩
  have tt : ∀ {ys : List D}, RP X H (LL Z m S) m (.tup ys) x → TyX X.K H x (.type "tuple") := fun {ys} rd => by
    obtain ⟨a, vs, rfl, h1, _⟩ := rd
    rcases h1 with ⟨h1 | ⟨o, h1⟩, _⟩ | ⟨o, its, n, h1, h2, _⟩
    · exact .base (.tup h1)
    · exact .fTuple h1
    · exact .kTuple h1 h2
  have tl : ∀ {ys : List D}, RP X H (LL Z m S) m (.lst ys) x → TyX X.K H x (.type "list") := fun {ys} rd => by
    obtain ⟨a, vs, rfl, h1, _⟩ := rd
    exact .base (.lst h1.1)
  cases f <;> first | (cases h; done) | skip
  all_goals (cases h)
  all_goals (cases d <;> first | (cases e; done) | skip)
  all_goals first
    | (cases (show x = _ from rd); cases e; exact go "NoneType" _ (.base .non) (by first | rfl | decide +kernel) (k.here hr (v := .bl _) rfl))
    | (cases (show x = _ from rd); cases e; exact go "bool" _ (.base (.bl _)) (by first | rfl | decide +kernel) (k.here hr (v := .bl _) rfl))
    | (cases (show x = _ from rd); cases e; exact go "int" _ (.base (.int _)) (by first | rfl | decide +kernel) (k.here hr (v := .bl _) rfl))
    | (cases (show x = _ from rd); cases e; exact go "str" _ (.base (.str _)) (by first | rfl | decide +kernel) (k.here hr (v := .bl _) rfl))
    | (cases e; exact go "tuple" _ (tt rd) (by first | rfl | decide +kernel) (k.here hr (v := .bl _) rfl))
    | (cases e; exact go "list" _ (tl rd) (by first | rfl | decide +kernel) (k.here hr (v := .bl _) rfl))
end
end KL
end
section
set_option Elab.async false
set_option linter.all false
set_option maxRecDepth 100000
set_option maxHeartbeats 8000000
set_option autoImplicit false
/-! KLSnd2: the theorem for expressions. -/
namespace KL
open PySem PySem.Spec PyProof.Rows L2

/-- the two forms of a comparison, or a value's truth -/
def tstOk (a : ME) (e : Expr) : Bool := match a, e with
  | .cmp _ _ _, .Compare _ _ _ _ => true
  | .chain _ _ _ _ _, .Compare _ _ _ _ => true
  | _, e => plainTest e
def SE (X : Cx) (G : GCon) (C : CallF) (a : ME) (e : Expr) : Prop := PE X e (tD X fun ρ S => evalE G C a ρ S) ∧ (tstOk a e = true → PT X e (tTst X fun ρ S => evalE G C a ρ S))
section
variable {X : Cx} {Γ : Gam} {G : GCon} {C : CallF}
theorem se_plain {a : ME} {e : Expr} (h : PE X e (tD X fun ρ S => evalE G C a ρ S)) (hn : tstOk a e = true → plainTest e = true) : SE X G C a e := ⟨h, fun t => pt_D (hn t) h⟩
theorem tst_cmpFree {a : ME} {e : Expr} (h1 : ∀ op x y, a ≠ .cmp op x y) (h2 : ∀ op op' x y z, a ≠ .chain op op' x y z) (h : tstOk a e = true) : plainTest e = true := by
  unfold tstOk at h
  split at h
  · exact (h1 _ _ _ rfl).elim
  · exact (h2 _ _ _ _ _ rfl).elim
  · exact h
theorem stars1 {e : Expr} (h : notStar e = true) : noStars [e] = true := by show (notStar e && true) = true; rw [h]; rfl
theorem blt_mem {x : Str} (h : CtxOk X Γ G C) (hx : x ∈ blts := by decide) : X.mg x = none := h.blt x hx
/-- a built-in function by its name -/
theorem se_callB {f : BF} {n : Str} {es : List ME} {y : Expr} {ys : List Expr} {p pos : Pos} (h : CtxOk X Γ G C) (hn : bfNm f = some n) (hg : Gl X n) (ha : PA X (y :: ys) (tDs X fun ρ S => evalEs G C es ρ S)) (hs : noStars (y :: ys) = true) :
    PE X (.Call (.Name n p) (y :: ys) [] pos) (tD X fun ρ S => evalE G C (.callB f es) ρ S) := by
  cases f <;> first | (cases hn; done) | skip
  all_goals (cases hn)
  · exact pe_bltD (id := "len") (fun Z => call_len) hg (blt_mem h) (by first | rfl | decide +kernel) (by decide) (by decide) ha hs fun _ _ => rfl
  · exact pe_bltD (id := "abs") (fun Z => call_absD) hg (blt_mem h) (by first | rfl | decide +kernel) (by decide) (by decide) ha hs fun _ _ => rfl
  · exact pe_bltD (id := "min") (fun Z => call_min2D h.calm) hg (blt_mem h) (by first | rfl | decide +kernel) (by decide) (by decide) ha hs fun _ _ => rfl
  · exact pe_bltD (id := "max") (fun Z => call_max2D h.calm) hg (blt_mem h) (by first | rfl | decide +kernel) (by decide) (by decide) ha hs fun _ _ => rfl
  · exact pe_bltD (id := "min") (fun Z => call_minL h.calm) hg (blt_mem h) (by first | rfl | decide +kernel) (by decide) (by decide) ha hs fun _ _ => rfl
  · exact pe_bltD (id := "max") (fun Z => call_maxL h.calm) hg (blt_mem h) (by first | rfl | decide +kernel) (by decide) (by decide) ha hs fun _ _ => rfl
  · exact pe_bltD (id := "any") (fun Z => call_anyD h.calm) hg (blt_mem h) (by first | rfl | decide +kernel) (by decide) (by decide) ha hs fun _ _ => rfl
  · exact pe_bltD (id := "all") (fun Z => call_allD h.calm) hg (blt_mem h) (by first | rfl | decide +kernel) (by decide) (by decide) ha hs fun _ _ => rfl
  · exact pe_tyD (id := "int") (fun Z => call_intD) hg (blt_mem h) (by first | rfl | decide +kernel) (by decide) (by decide) ha hs fun _ _ => rfl
  · exact pe_tyD (id := "str") (fun Z => call_strD) hg (blt_mem h) (by first | rfl | decide +kernel) (by decide) (by decide) ha hs fun _ _ => rfl
  · exact pe_tyD (id := "list") (fun Z => call_listD' h.calm) hg (blt_mem h) (by first | rfl | decide +kernel) (by decide) (by decide) ha hs fun _ _ => rfl
  · exact pe_tyD (id := "tuple") (fun Z => call_tupD) hg (blt_mem h) (by first | rfl | decide +kernel) (by decide) (by decide) ha hs fun _ _ => rfl
/-- isinstance(y, T) -/
theorem se_isi {f : BF} {T : String} {a : ME} {y : Expr} {p p2 pos : Pos} (h : CtxOk X Γ G C) (hn : isNm f = some T) (hg : Gl X "isinstance") (hg2 : Gl X (Str.ofString T)) (he : PE X y (tD X fun ρ S => evalE G C a ρ S)) (hs : notStar y = true) :
    PE X (.Call (.Name "isinstance" p) [y, .Name (Str.ofString T) p2] [] pos) (tD X fun ρ S => evalE G C (.callB f [a]) ρ S) := by
  have hT : bootBuiltins (Str.ofString T) = some (.type T) ∧ X.mg (Str.ofString T) = none ∧ Str.ofString T ≠ ("__name__" : Str) ∧ (Str.ofString T == ("__debug__" : Str)) = false := by
    cases f <;> first | (cases hn; done) | skip
    all_goals (cases hn; exact ⟨by first | rfl | decide +kernel, blt_mem h, by decide, by decide⟩)
  have p1 : PE X (.Name (Str.ofString T) p2) (tC (.ty T)) := pe_bltn hg2 hT.2.1 hT.1 (by rfl) hT.2.2.1 hT.2.2.2
  refine PE.imp (pe_callB (r := fun xs H Q => ∃ Z x, xs = [x, .ty T] ∧ ∃ m S d r, HRX X Z m S H ∧ RP X H (LL Z m S) m d x ∧ bfD f [d] S = some r ∧ KD X Z m S H r S Q) (fun pins s σ H xs us Q I r hq => by
    obtain ⟨Z, hq⟩ := hq
    exact isi_D hn (Z := Z) pins s σ H xs us Q I r hq) hg (blt_mem h) (by first | rfl | decide +kernel) (pa_cons he (pa_cons p1 pa_nil rfl) (star_cons hs)) (by decide) (by decide) (star_cons hs) rfl) fun σ H Q ⟨Z, ρ, m, S, d, S', er, hr, ef, k⟩ => ?_
  obtain ⟨ds, S1, e1, ef⟩ := bnd_ok (show bnd (bnd (evalE G C a ρ S) fun d S => bnd (ok [] S) fun ds S => ok (d :: ds) S) (fun ds S => lift (bfD f ds S) S) = some (.ok d S') from ef)
  obtain ⟨x, S2, e10, e3⟩ := bnd_ok e1
  obtain ⟨ds', S3, e4, e5⟩ := bnd_ok e3
  obtain ⟨rfl, rfl⟩ := ok_ok e4
  obtain ⟨rfl, rfl⟩ := ok_ok e5
  obtain ⟨e2, rfl⟩ := lift_ok ef
  exact ⟨Z, ρ, m, S, x, _, er, hr, e10, fun m1 H1 v x1 hr1 r1 => ⟨Z, v, rfl, m1, _, x, d, hr1, r1, e2, fun m2 H2 w x2 hr2 r2 => k m2 H2 w (x1.trans x2) hr2 r2⟩⟩
theorem ckEs_len {Γ : Gam} : ∀ (es : List ME) (xs : List Expr), ckEs Γ es xs = true → es.length = xs.length
  | [], xs, c => by
    cases xs with
    | nil => rfl
    | cons _ _ => cases c
  | e :: es, xs, c => by
    cases xs with
    | nil => cases c
    | cons x xs =>
      obtain ⟨_, _, c3⟩ := and3 (show (notStar x && ckE Γ e x && ckEs Γ es xs) = true from c)
      simp [ckEs_len es xs c3]
theorem sndC {own : List Nat} {elt : ME} {tg : List Nat} {it : MI} {ifs : List MQ} {t i x : Expr} {fs : List Expr} {scope : Scope} (h : CtxOk X Γ G C) (hi : ckI Γ it t i = true → PI X t i (tI X fun ρ S => evalI G C it ρ S))
    (hf : ∀ {X' : Cx} {Γ' : Gam}, CtxOk X' Γ' G C → ckF Γ' ifs fs = true → PTs X' fs (tQ X' fun ρ S => noexc (evalTs G C ifs ρ S))) (he : ∀ {X' : Cx} {Γ' : Gam}, CtxOk X' Γ' G C → ckE Γ' elt x = true → PE X' x (tD X' fun ρ S => evalE G C elt ρ S))
    (c : (blkC Γ.N Γ.sc scope (ownP Γ own) && decide (∀ j ∈ tg, j ∈ own) && tgB (Γ.blk scope) tg t && notSet i && ckI Γ it t i && ckE (Γ.blk scope) elt x && ckF (Γ.blk scope) ifs fs) = true) :
    BlkOk X.N X.env.scope scope (ownP Γ own) ∧ (∀ j ∈ tg, j ∈ own) ∧ (∀ (s : Shared) (H : Hp) (c : Addr) (cl : List (Str × Addr)) (fp : List Addr), PG (X.blk s H scope (compEnvC scope cl c X.env) fp) t (gC X.K tg)) ∧
    PI X t i (tI X fun ρ S => evalI G C it ρ S) ∧ (∀ (s : Shared) (H : Hp) (c : Addr) (cl : List (Str × Addr)) (fp : List Addr), PTs (X.blk s H scope (compEnvC scope cl c X.env) fp) fs (tQ X fun ρ S => noexc (evalTs G C ifs ρ S))) ∧
    (∀ (s : Shared) (H : Hp) (c : Addr) (cl : List (Str × Addr)) (fp : List Addr), PE (X.blk s H scope (compEnvC scope cl c X.env) fp) x (tD X fun ρ S => noexc (evalE G C elt ρ S))) ∧ (∀ v, foldedSetIterable i X.env v = pure v) := by
  obtain ⟨b1, c7⟩ := and2 c
  obtain ⟨b2, c6⟩ := and2 b1
  obtain ⟨b3, c5⟩ := and2 b2
  obtain ⟨b4, c4⟩ := and2 b3
  obtain ⟨c1, c2, c3⟩ := and3 b4
  have ok : BlkOk X.N X.env.scope scope (ownP Γ own) := by
    rw [h.hN, h.sc]
    exact blkOk_by c1
  refine ⟨ok, of_decide_eq_true c2, fun s H cc cl fp => ?_, hi c5, fun s H cc cl fp => ?_, fun s H cc cl fp => ?_, fun v => noSet_fold c4 v⟩
  · exact pg_C (X := X.blk s H scope (compEnvC scope cl cc X.env) fp) h.nd h.calm ((h.blk ok s H cl cc fp).tg c3)
  · exact hf (h.blk ok s H cl cc fp) c7
  · exact pe_noexc (X := X.blk s H scope (compEnvC scope cl cc X.env) fp) (he (h.blk ok s H cl cc fp) c6)
theorem dkB_ok : ∀ {ks : List Txt} {keys : List (Option Expr)}, dkB ks keys = true → keys.length = ks.length ∧ keys.all (·.isSome) = true
  | [], keys, c => by
    cases keys with
    | nil => exact ⟨rfl, rfl⟩
    | cons _ _ => cases c
  | k :: ks, keys, c => by
    match keys, c with
    | some (.Constant (.str y) kk p) :: keys, c =>
      obtain ⟨b1, b2⟩ := and2 (show (decide (y = strV k) && dkB ks keys) = true from c)
      obtain ⟨i1, i2⟩ := dkB_ok b2
      exact ⟨by simp [i1], by rw [List.all_cons, i2]; rfl⟩
end
mutual
theorem sndE {G : GCon} {C : CallF} : ∀ (a : ME) {X : Cx} {Γ : Gam} (e : Expr), CtxOk X Γ G C → ckE Γ a e = true → SE X G C a e
  | .var i, X, Γ, e, h, c => by
    cases e <;> first | (cases c; done) | skip
    rename_i x p
    obtain ⟨c1, c2, c3⟩ := and3 (show (slotB Γ i x && visB Γ x && nmB x) = true from c)
    obtain ⟨n1, n2⟩ := nmB_ok c3
    refine se_plain (pe_varD (h.slot c1) (h.vis c2) n1 n2 fun ρ S d S' q => ?_) (tst_cmpFree (fun _ _ _ z => nomatch z) (fun _ _ _ _ _ z => nomatch z))
    replace q : (match ρ[i]? with
      | some (some d) => ok d S
      | _ => none) = some (.ok d S') := q
    cases q1 : ρ[i]? with
    | none => rw [q1] at q; cases q
    | some o =>
      rw [q1] at q
      cases o with
      | none => cases q
      | some d' =>
        obtain ⟨rfl, rfl⟩ := ok_ok q
        exact ⟨rfl, rfl⟩
  | .gcon g, X, Γ, e, h, c => by
    cases e <;> first | (cases c; done) | skip
    rename_i x p
    obtain ⟨c1, c2, c3⟩ := and3 (show (decide (Γ.gnm g = some x) && glB Γ x && nmB x) = true from c)
    obtain ⟨n1, n2⟩ := nmB_ok c3
    refine se_plain ⟨fun pins s σ H Q I hq => ?_⟩ (tst_cmpFree (fun _ _ _ z => nomatch z) (fun _ _ _ _ _ z => nomatch z))
    obtain ⟨Z, ρ, m, S, d, S', er, hr, ef, k⟩ := hq
    obtain ⟨e1, rfl⟩ := lift_ok (show lift (G g) S = some (.ok d S') from ef)
    obtain ⟨u, v, g1, g2, g3⟩ := h.gc g x d (of_decide_eq_true c1) e1
    exact (pe_glob (h.gl c2) g1 g2 n1).run pins s σ H Q I (k.here hr (g3 _ _ _))
  | .int i, X, Γ, e, h, c => by
    cases e <;> first | (cases c; done) | skip
    rename_i cst k p
    cases cst <;> first | (cases c; done) | skip
    rename_i j
    obtain rfl : i = j := of_decide_eq_true (show decide (i = j) = true from c)
    exact se_plain (pe_conD pe_int (c := .int i) (fun _ _ _ => rfl) fun ρ S d S' q => by obtain ⟨rfl, rfl⟩ := ok_ok q; exact ⟨rfl, rfl⟩) (tst_cmpFree (fun _ _ _ z => nomatch z) (fun _ _ _ _ _ z => nomatch z))
  | .bl i, X, Γ, e, h, c => by
    cases e <;> first | (cases c; done) | skip
    rename_i cst k p
    cases cst <;> first | (cases c; done) | skip
    rename_i j
    obtain rfl : i = j := of_decide_eq_true (show decide (i = j) = true from c)
    exact se_plain (pe_conD pe_bl (c := .bl i) (fun _ _ _ => rfl) fun ρ S d S' q => by obtain ⟨rfl, rfl⟩ := ok_ok q; exact ⟨rfl, rfl⟩) (tst_cmpFree (fun _ _ _ z => nomatch z) (fun _ _ _ _ _ z => nomatch z))
  | .non, X, Γ, e, h, c => by
    cases e <;> first | (cases c; done) | skip
    rename_i cst k p
    cases cst <;> first | (cases c; done) | skip
    exact se_plain (pe_conD pe_non (c := .non) (fun _ _ _ => rfl) fun ρ S d S' q => by obtain ⟨rfl, rfl⟩ := ok_ok q; exact ⟨rfl, rfl⟩) (tst_cmpFree (fun _ _ _ z => nomatch z) (fun _ _ _ _ _ z => nomatch z))
  | .str t, X, Γ, e, h, c => by
    cases e <;> first | (cases c; done) | skip
    rename_i cst k p
    cases cst <;> first | (cases c; done) | skip
    rename_i x
    obtain rfl : x = strV t := of_decide_eq_true (show decide (x = strV t) = true from c)
    exact se_plain (pe_conD pe_str (c := .str t) (fun _ _ _ => rfl) fun ρ S d S' q => by obtain ⟨rfl, rfl⟩ := ok_ok q; exact ⟨rfl, rfl⟩) (tst_cmpFree (fun _ _ _ z => nomatch z) (fun _ _ _ _ _ z => nomatch z))
  | .tup es, X, Γ, e, h, c => by
    cases e <;> first | (cases c; done) | skip
    rename_i xs k p
    obtain ⟨c1, c2⟩ := and2 (show (decide (es.length ≤ 1000) && ckEs Γ es xs) = true from c)
    have hl := of_decide_eq_true c1
    exact se_plain (pe_tupD (sndEs es xs h c2) (fun ρ S ds S' q => by rw [evalEs_len q]; exact hl) fun _ _ => rfl) (tst_cmpFree (fun _ _ _ z => nomatch z) (fun _ _ _ _ _ z => nomatch z))
  | .lst es, X, Γ, e, h, c => by
    cases e <;> first | (cases c; done) | skip
    rename_i xs p
    obtain ⟨c1, c2⟩ := and2 (show (decide (es.length ≤ 1000) && ckEs Γ es xs) = true from c)
    have hl := of_decide_eq_true c1
    exact se_plain (pe_lstD (sndEs es xs h c2) (fun ρ S ds S' q => by rw [evalEs_len q]; exact hl) fun _ _ => rfl) (tst_cmpFree (fun _ _ _ z => nomatch z) (fun _ _ _ _ _ z => nomatch z))
  | .newL es, X, Γ, e, h, c => by
    cases e <;> first | (cases c; done) | skip
    rename_i xs p
    obtain ⟨c1, c2⟩ := and2 (show (decide (es.length ≤ 1000) && ckEs Γ es xs) = true from c)
    have hl := of_decide_eq_true c1
    exact se_plain (pe_newL (sndEs es xs h c2) (fun ρ S ds S' q => by rw [evalEs_len q]; exact hl) fun _ _ => rfl) (tst_cmpFree (fun _ _ _ z => nomatch z) (fun _ _ _ _ _ z => nomatch z))
  | .newT, X, Γ, e, h, c => by
    cases e <;> first | (cases c; done) | skip
    rename_i ks vs p
    match ks, vs, c with
    | [], [], _ => exact se_plain (pe_newT fun _ _ => rfl) (tst_cmpFree (fun _ _ _ z => nomatch z) (fun _ _ _ _ _ z => nomatch z))
  | .newS ks es, X, Γ, e, h, c => by
    cases e <;> first | (cases c; done) | skip
    rename_i keys xs p
    obtain ⟨c0, c2⟩ := and2 (show ((match (generalizing := false) keys, xs, ks, es with
      | [], [], [], [] => true
      | keys, xs, ks, es => dkB ks keys && decide (ks.length ≤ 15) && decide (1 ≤ ks.length) && decide (ks.length = es.length)) && ckEs Γ es xs) = true from c)
    by_cases h0 : keys = [] ∧ xs = [] ∧ ks = [] ∧ es = []
    · obtain ⟨rfl, rfl, rfl, rfl⟩ := h0
      exact se_plain (pe_newS0 fun _ _ => rfl) (tst_cmpFree (fun _ _ _ z => nomatch z) (fun _ _ _ _ _ z => nomatch z))
    · have c1 : (dkB ks keys && decide (ks.length ≤ 15) && decide (1 ≤ ks.length) && decide (ks.length = es.length)) = true := by
        split at c0
        · exact (h0 ⟨rfl, rfl, rfl, rfl⟩).elim
        · exact c0
      obtain ⟨c1, c4⟩ := and2 c1
      obtain ⟨c1, c5⟩ := and2 c1
      obtain ⟨c1, c6⟩ := and2 c1
      obtain ⟨d1, d2⟩ := dkB_ok c1
      have hl := of_decide_eq_true c4
      have l1 := of_decide_eq_true c5
      have hx := ckEs_len es xs c2
      exact se_plain (pe_newSD (gs := es.map fun e => evalE G C e) (sndPs es ks keys xs h c1 c2 hl) d2 (by rw [d1, hl, hx]) (by rintro rfl; simp at d1; omega) (of_decide_eq_true c6) d1 (by rw [List.length_map]; exact hl)
        fun ρ S => by rw [← evalEs_evs]; rfl) (tst_cmpFree (fun _ _ _ z => nomatch z) (fun _ _ _ _ _ z => nomatch z))
  | .dispS ks es, X, Γ, e, h, c => by
    cases e <;> first | (cases c; done) | skip
    rename_i keys xs p
    obtain ⟨c1, c2⟩ := and2 (show (dkB ks keys && decide (ks.length ≤ 15) && decide (1 ≤ ks.length) && decide (ks.length = es.length) && ckEs Γ es xs) = true from c)
    obtain ⟨c1, c4⟩ := and2 c1
    obtain ⟨c1, c5⟩ := and2 c1
    obtain ⟨c1, c6⟩ := and2 c1
    obtain ⟨d1, d2⟩ := dkB_ok c1
    have hl := of_decide_eq_true c4
    have l1 := of_decide_eq_true c5
    have hx := ckEs_len es xs c2
    exact se_plain (pe_dispD (gs := es.map fun e => evalE G C e) (sndPs es ks keys xs h c1 c2 hl) d2 (by rw [d1, hl, hx]) (by rintro rfl; simp at d1; omega) (of_decide_eq_true c6) d1 (by rw [List.length_map]; exact hl)
      fun ρ S => by rw [← evalEs_evs]; rfl) (tst_cmpFree (fun _ _ _ z => nomatch z) (fun _ _ _ _ _ z => nomatch z))
  | .bin op a b, X, Γ, e, h, c => by
    cases e <;> first | (cases c; done) | skip
    rename_i x o y p
    obtain ⟨c1, c2, c3⟩ := and3 (show (decide (o = bopOf op) && ckE Γ a x && ckE Γ b y) = true from c)
    exact se_plain (pe_binD (of_decide_eq_true c1) (sndE a x h c2).1 (sndE b y h c3).1 fun _ _ => rfl) (tst_cmpFree (fun _ _ _ z => nomatch z) (fun _ _ _ _ _ z => nomatch z))
  | .neg a, X, Γ, e, h, c => by
    cases e <;> first | (cases c; done) | skip
    rename_i o x p
    cases o <;> first | (cases c; done) | skip
    exact se_plain (pe_negD (sndE a x h c).1 fun _ _ => rfl) (tst_cmpFree (fun _ _ _ z => nomatch z) (fun _ _ _ _ _ z => nomatch z))
  | .notE a, X, Γ, e, h, c => by
    cases e <;> first | (cases c; done) | skip
    rename_i o x p
    cases o <;> first | (cases c; done) | skip
    exact se_plain (pe_notD (sndE a x h c).1 fun _ _ => rfl) (tst_cmpFree (fun _ _ _ z => nomatch z) (fun _ _ _ _ _ z => nomatch z))
  | .cmp op a b, X, Γ, e, h, c => by
    cases e <;> first | (cases c; done) | skip
    rename_i x os ys p
    match os, ys, c with
    | [o], [y], c =>
      obtain ⟨c1, c3⟩ := and2 (show (decide (o = copOf op) && notSet y && ckE Γ a x && ckE Γ b y) = true from c)
      obtain ⟨c0, c1, c2⟩ := and3 c1
      obtain ⟨q1, q2⟩ := pe_cmpD (pos := p) h.hu (of_decide_eq_true c0) (noSet_mark c1) (sndE a x h c2).1 (sndE b y h c3).1 (f := fun ρ S => evalE G C (.cmp op a b) ρ S) fun _ _ => rfl
      exact ⟨q1, fun _ => q2⟩
  | .chain op op' a b d, X, Γ, e, h, c => by
    cases e <;> first | (cases c; done) | skip
    rename_i x os ys p
    match os, ys, c with
    | [o, o'], [y, z], c =>
      obtain ⟨c1, c6⟩ := and2 (show (decide (o = copOf op) && decide (o' = copOf op') && notSet z && ckE Γ a x && ckE Γ b y && ckE Γ d z) = true from c)
      obtain ⟨c1, c5⟩ := and2 c1
      obtain ⟨c1, c4⟩ := and2 c1
      obtain ⟨c0, c1, c2⟩ := and3 c1
      obtain ⟨q1, q2⟩ := pe_chainD (pos := p) h.hu (of_decide_eq_true c0) (of_decide_eq_true c1) (noSet_last c2) (sndE a x h c4).1 (sndE b y h c5).1 (sndE d z h c6).1 (f := fun ρ S => evalE G C (.chain op op' a b d) ρ S) fun _ _ => rfl
      exact ⟨q1, fun _ => q2⟩
  | .andE es, X, Γ, e, h, c => by
    cases e <;> first | (cases c; done) | skip
    rename_i o xs p
    cases o <;> first | (cases c; done) | skip
    exact se_plain (sndAnd es xs h c) (tst_cmpFree (fun _ _ _ z => nomatch z) (fun _ _ _ _ _ z => nomatch z))
  | .orE es, X, Γ, e, h, c => by
    cases e <;> first | (cases c; done) | skip
    rename_i o xs p
    cases o <;> first | (cases c; done) | skip
    exact se_plain (sndOr es xs h c) (tst_cmpFree (fun _ _ _ z => nomatch z) (fun _ _ _ _ _ z => nomatch z))
  | .ife q a b, X, Γ, e, h, c => by
    cases e <;> first | (cases c; done) | skip
    rename_i z x y p
    obtain ⟨c1, c2, c3⟩ := and3 (show (ckQ Γ q z && ckE Γ a x && ckE Γ b y) = true from c)
    exact se_plain (pe_ifD (sndQ q z h c1) (sndE a x h c2).1 (sndE b y h c3).1 fun _ _ => rfl) (tst_cmpFree (fun _ _ _ z => nomatch z) (fun _ _ _ _ _ z => nomatch z))
  | .idx a b, X, Γ, e, h, c => by
    cases e <;> first | (cases c; done) | skip
    rename_i x y p
    obtain ⟨c1, c2, c3⟩ := and3 (show (notSlice y && ckE Γ a x && ckE Γ b y) = true from c)
    exact se_plain (pe_ixD h.hu c1 (sndE a x h c2).1 (sndE b y h c3).1 fun _ _ => rfl) (tst_cmpFree (fun _ _ _ z => nomatch z) (fun _ _ _ _ _ z => nomatch z))
  | .slc a lo hi, X, Γ, e, h, c => by
    cases e <;> first | (cases c; done) | skip
    rename_i x y p
    cases y <;> first | (cases c; done) | skip
    rename_i l u st p2
    cases st <;> first | (cases c; done) | skip
    obtain ⟨c1, c2, c3⟩ := and3 (show (ckE Γ a x && ckO Γ lo l && ckO Γ hi u) = true from c)
    exact se_plain (pe_slD (sndE a x h c1).1 (sndO lo l h c2) (sndO hi u h c3) fun _ _ => rfl) (tst_cmpFree (fun _ _ _ z => nomatch z) (fun _ _ _ _ _ z => nomatch z))
  | .call f es, X, Γ, e, h, c => by
    cases e <;> first | (cases c; done) | skip
    rename_i fn xs kws p
    cases fn <;> first | (cases c; done) | skip
    rename_i x p2
    cases kws <;> first | (cases c; done) | skip
    obtain ⟨c1, c5⟩ := and2 (show (decide (Γ.fnm f = some (x, es.length)) && glB Γ x && nmB x && noStars xs && ckEs Γ es xs) = true from c)
    obtain ⟨c1, c4⟩ := and2 c1
    obtain ⟨c1, c2, c3⟩ := and3 c1
    obtain ⟨k, fa, fd, ps, g1, g2, g3, g4, g5⟩ := h.fns f x _ (of_decide_eq_true c1)
    have ha := sndEs es xs h c5
    refine se_plain ?_ (tst_cmpFree (fun _ _ _ z => nomatch z) (fun _ _ _ _ _ z => nomatch z))
    cases xs with
    | nil =>
      have e0 : es = [] := List.eq_nil_of_length_eq_zero (ckEs_len es [] c5)
      subst e0
      exact pe_own0D g5 g1 (h.gl c2) g2 g3 g4 (nmB_ok c3).1 (g := fun ρ S => evalEs G C [] ρ S) (fun _ _ => rfl) (fun ρ S ds S' q => evalEs_len q) fun _ _ => rfl
    | cons y ys => exact pe_ownD g5 g1 (h.gl c2) g2 g3 g4 (nmB_ok c3).1 ha c4 (fun ρ S ds S' q => evalEs_len q) fun _ _ => rfl
  | .callB f es, X, Γ, e, h, c => by
    cases e <;> first | (cases c; done) | skip
    rename_i fn xs kws p
    cases fn <;> first | (cases c; done) | skip
    rename_i x p2
    cases kws <;> first | (cases c; done) | skip
    refine se_plain ?_ (tst_cmpFree (fun _ _ _ z => nomatch z) (fun _ _ _ _ _ z => nomatch z))
    have c : (match (generalizing := false) bfNm f with
      | some n => gbB Γ x n && noStars xs && !xs.isEmpty && ckEs Γ es xs
      | none => match (generalizing := false) isNm f, xs with
        | some n, [y, .Name z _] => gbB Γ x "isinstance" && gbB Γ z (Str.ofString n) && ckEs Γ es [y]
        | _, _ => false) = true := c
    cases q : bfNm f with
    | some n =>
      rw [q] at c
      obtain ⟨b1, c4⟩ := and2 (show (gbB Γ x n && noStars xs && !xs.isEmpty && ckEs Γ es xs) = true from c)
      obtain ⟨c1, c2, c3⟩ := and3 b1
      obtain ⟨rfl, hg⟩ := h.gb c1
      have ha := sndEs es xs h c4
      cases xs with
      | nil => cases c3
      | cons y ys => exact se_callB h q hg ha c2
    | none =>
      rw [q] at c
      cases q2 : isNm f with
      | none => rw [q2] at c; cases c
      | some n =>
        rw [q2] at c
        match xs, c with
        | [y, .Name z p3], c =>
          obtain ⟨c1, c2, c4⟩ := and3 (show (gbB Γ x "isinstance" && gbB Γ z (Str.ofString n) && ckEs Γ es [y]) = true from c)
          obtain ⟨rfl, hg⟩ := h.gb c1
          obtain ⟨rfl, hg2⟩ := h.gb c2
          match es, c4 with
          | [], c4 => cases c4
          | a :: es', c4 =>
            obtain ⟨d1, d2, d3⟩ := and3 (show (notStar y && ckE Γ a y && ckEs Γ es' []) = true from c4)
            cases es' with
            | nil => exact se_isi h q2 hg hg2 (sndE a y h d2).1 d1
            | cons _ _ => cases d3
  | .meth f o es, X, Γ, e, h, c => by
    cases e <;> first | (cases c; done) | skip
    rename_i fn xs kws p
    cases fn <;> first | (cases c; done) | skip
    rename_i y nm ap
    cases kws <;> first | (cases c; done) | skip
    obtain ⟨b1, c8⟩ := and2 (show ((match (generalizing := false) f with
      | .get1 => decide (nm = "get")
      | .get2 => decide (nm = "get")
      | .index => decide (nm = "index")
      | _ => false) && notCall y && (ap.endLine == p.line) && noStars xs && decide (1 ≤ xs.length) && decide (xs.length < 10) && ckE Γ o y && ckEs Γ es xs) = true from c)
    obtain ⟨b2, c7⟩ := and2 b1
    obtain ⟨b3, c6⟩ := and2 b2
    obtain ⟨b4, c5⟩ := and2 b3
    obtain ⟨b5, c4⟩ := and2 b4
    obtain ⟨c1, c2, c3⟩ := and3 b5
    clear b1 b2 b3 b4 b5
    have mc : ∀ nm, MC X y nm ap p xs := fun nm => mc_of c2 c3 c4 (of_decide_eq_true c6)
    refine se_plain ?_ (tst_cmpFree (fun _ _ _ z => nomatch z) (fun _ _ _ _ _ z => nomatch z))
    have ho := (sndE o y h c7).1
    have ha := sndEs es xs h c8
    cases xs with
    | nil => cases c5
    | cons z zs =>
      cases f <;> first | (cases c1; done) | skip
      · obtain rfl := of_decide_eq_true c1
        exact pe_get1D h.hu ho ha (mc _) c4 fun _ _ => rfl
      · obtain rfl := of_decide_eq_true c1
        exact pe_get2D h.hu ho ha (mc _) c4 fun _ _ => rfl
      · obtain rfl := of_decide_eq_true c1
        exact pe_indexD h.hu ho ha (mc _) c4 fun _ _ => rfl
  | .lrange _, X, Γ, e, h, c => by cases c
  | .trange _, X, Γ, e, h, c => by cases c
  | .sortSet a, X, Γ, e, h, c => by
    cases e <;> first | (cases c; done) | skip
    rename_i fn xs kws p
    match fn, xs, kws, c with
    | .Name x p1, [.Call (.Name z p2) [y] [] p3], [], c =>
      obtain ⟨c1, c4⟩ := and2 (show (gbB Γ x "sorted" && gbB Γ z "set" && notStar y && ckE Γ a y) = true from c)
      obtain ⟨c1, c2, c3⟩ := and3 c1
      obtain ⟨rfl, hg⟩ := h.gb c1
      obtain ⟨rfl, hg2⟩ := h.gb c2
      exact se_plain (pe_sortSet h.calm hg (blt_mem h) hg2 (blt_mem h) (sndE a y h c4).1 c3 fun _ _ => rfl) (tst_cmpFree (fun _ _ _ z => nomatch z) (fun _ _ _ _ _ z => nomatch z))
  | .copyS a, X, Γ, e, h, c => by
    cases e <;> first | (cases c; done) | skip
    rename_i fn xs kws p
    match fn, xs, kws, c with
    | .Name x p1, [y], [], c =>
      obtain ⟨c1, c2, c3⟩ := and3 (show (gbB Γ x "dict" && notStar y && ckE Γ a y) = true from c)
      obtain ⟨rfl, hg⟩ := h.gb c1
      exact se_plain (pe_copyD hg (blt_mem h) (sndE a y h c3).1 c2 fun _ _ => rfl) (tst_cmpFree (fun _ _ _ z => nomatch z) (fun _ _ _ _ _ z => nomatch z))
  | .append o a, X, Γ, e, h, c => by
    cases e <;> first | (cases c; done) | skip
    rename_i fn xs kws p
    match fn, xs, kws, c with
    | .Attribute y nm ap, [x], [], c =>
      obtain ⟨c1, c6⟩ := and2 (show (decide (nm = "append") && notCall y && (ap.endLine == p.line) && notStar x && ckE Γ o y && ckE Γ a x) = true from c)
      obtain ⟨c1, c5⟩ := and2 c1
      obtain ⟨c1, c4⟩ := and2 c1
      obtain ⟨c1, c2, c3⟩ := and3 c1
      obtain rfl := of_decide_eq_true c1
      exact se_plain (pe_appendD (mc_of c2 c3 (stars1 c4) (by simp)) (sndE o y h c5).1 (sndE a x h c6).1 c4 fun _ _ => rfl) (tst_cmpFree (fun _ _ _ z => nomatch z) (fun _ _ _ _ _ z => nomatch z))
  | .pop o, X, Γ, e, h, c => by
    cases e <;> first | (cases c; done) | skip
    rename_i fn xs kws p
    match fn, xs, kws, c with
    | .Attribute y nm ap, [], [], c =>
      obtain ⟨c1, c4⟩ := and2 (show (decide (nm = "pop") && notCall y && (ap.endLine == p.line) && ckE Γ o y) = true from c)
      obtain ⟨c1, c2, c3⟩ := and3 c1
      obtain rfl := of_decide_eq_true c1
      exact se_plain (pe_popD (mc_of c2 c3 rfl (by simp)) (sndE o y h c4).1 fun _ _ => rfl) (tst_cmpFree (fun _ _ _ z => nomatch z) (fun _ _ _ _ _ z => nomatch z))
  | .frz a, X, Γ, e, h, c => by
    have q := pe_frzD (sndE a e h c).1 (f := fun ρ S => evalE G C (.frz a) ρ S) fun _ _ => rfl
    exact se_plain q (tst_cmpFree (fun _ _ _ z => nomatch z) (fun _ _ _ _ _ z => nomatch z))
  | .comp own elt tg it ifs, X, Γ, e, h, c => by
    cases e <;> first | (cases c; done) | skip
    rename_i x gs scope p
    match gs, c with
    | [⟨t, i, fs, 0⟩], c =>
      obtain ⟨ok, hown, hg, hi, ht, he, hs⟩ := sndC (own := own) (elt := elt) (tg := tg) (it := it) (ifs := ifs) h (fun c => sndI it t i h c) (fun {X' Γ'} h c => sndF ifs fs h c) (fun {X' Γ'} h c => (sndE elt x h c).1) c
      exact se_plain (PE.imp (pe_lc h.calm h.nd hi ok hg ht he hs) fun σ H Q q => by
        have e1 : (ownP Γ own).map (·.2) = own := by unfold ownP; rw [List.map_map]; exact List.map_id' _
        rw [e1]
        exact lc_read hown (fun _ _ => rfl) q) (tst_cmpFree (fun _ _ _ z => nomatch z) (fun _ _ _ _ _ z => nomatch z))
  | .dcomp _ _ _ _ _ _, X, Γ, e, h, c => by cases c
theorem sndEs {G : GCon} {C : CallF} : ∀ (es : List ME) {X : Cx} {Γ : Gam} (xs : List Expr), CtxOk X Γ G C → ckEs Γ es xs = true → PA X xs (tDs X fun ρ S => evalEs G C es ρ S)
  | [], X, Γ, xs, h, c => by
    cases xs with
    | nil => exact pa_nilD fun ρ S d S' q => by obtain ⟨rfl, rfl⟩ := ok_ok q; exact ⟨rfl, rfl⟩
    | cons _ _ => cases c
  | e :: es, X, Γ, xs, h, c => by
    cases xs with
    | nil => cases c
    | cons x xs =>
      obtain ⟨c1, c2, c3⟩ := and3 (show (notStar x && ckE Γ e x && ckEs Γ es xs) = true from c)
      exact pa_consD (sndE e x h c2).1 (sndEs es xs h c3) c1 fun _ _ => rfl
theorem sndPs {G : GCon} {C : CallF} : ∀ (es : List ME) {X : Cx} {Γ : Gam} {pos : Pos} (ks : List Txt) (keys : List (Option Expr)) (xs : List Expr), CtxOk X Γ G C → dkB ks keys = true → ckEs Γ es xs = true → ks.length = es.length → PPs X pos keys xs (dtrs X ks (es.map fun e => evalE G C e))
  | [], X, Γ, pos, ks, keys, xs, h, c1, c2, hl => by
    obtain rfl : ks = [] := List.eq_nil_of_length_eq_zero hl
    cases xs with
    | cons _ _ => cases c2
    | nil =>
      cases keys with
      | nil => exact pps_nil
      | cons _ _ => cases c1
  | e :: es, X, Γ, pos, ks, keys, xs, h, c1, c2, hl => by
    cases xs with
    | nil => cases c2
    | cons x xs =>
      obtain ⟨d1, d2, d3⟩ := and3 (show (notStar x && ckE Γ e x && ckEs Γ es xs) = true from c2)
      match ks, keys, c1, hl with
      | k :: ks, some (.Constant (.str y) kk p) :: keys, c1, hl =>
        obtain ⟨b1, b2⟩ := and2 (show (decide (y = strV k) && dkB ks keys) = true from c1)
        obtain rfl := of_decide_eq_true b1
        exact pps_cons pe_str (sndE e x h d2).1 (sndPs es ks keys xs h b2 d3 (by simpa using hl))
theorem sndAnd {G : GCon} {C : CallF} : ∀ (es : List ME) {X : Cx} {Γ : Gam} {pos : Pos} (xs : List Expr), CtxOk X Γ G C → ckEs Γ es xs = true → PE X (.BoolOp .And xs pos) (tD X fun ρ S => evalAnd G C es ρ S)
  | [], X, Γ, pos, xs, h, c => ⟨fun pins s σ H Q I ⟨Z, ρ, m, S, d, S', er, hr, ef, k⟩ => nomatch ef⟩
  | [e], X, Γ, pos, xs, h, c => by
    cases xs with
    | nil => cases c
    | cons x xs =>
      obtain ⟨c1, c2, c3⟩ := and3 (show (notStar x && ckE Γ e x && ckEs Γ [] xs) = true from c)
      cases xs with
      | nil => exact pe_one (sndE e x h c2).1
      | cons _ _ => cases c3
  | e :: e2 :: es, X, Γ, pos, xs, h, c => by
    cases xs with
    | nil => cases c
    | cons x xs =>
      obtain ⟨c1, c2, c3⟩ := and3 (show (notStar x && ckE Γ e x && ckEs Γ (e2 :: es) xs) = true from c)
      cases xs with
      | nil => cases c3
      | cons y ys => exact pe_andD (sndE e x h c2).1 (sndAnd (e2 :: es) (y :: ys) h c3) fun _ _ => rfl
theorem sndOr {G : GCon} {C : CallF} : ∀ (es : List ME) {X : Cx} {Γ : Gam} {pos : Pos} (xs : List Expr), CtxOk X Γ G C → ckEs Γ es xs = true → PE X (.BoolOp .Or xs pos) (tD X fun ρ S => evalOr G C es ρ S)
  | [], X, Γ, pos, xs, h, c => ⟨fun pins s σ H Q I ⟨Z, ρ, m, S, d, S', er, hr, ef, k⟩ => nomatch ef⟩
  | [e], X, Γ, pos, xs, h, c => by
    cases xs with
    | nil => cases c
    | cons x xs =>
      obtain ⟨c1, c2, c3⟩ := and3 (show (notStar x && ckE Γ e x && ckEs Γ [] xs) = true from c)
      cases xs with
      | nil => exact pe_one (sndE e x h c2).1
      | cons _ _ => cases c3
  | e :: e2 :: es, X, Γ, pos, xs, h, c => by
    cases xs with
    | nil => cases c
    | cons x xs =>
      obtain ⟨c1, c2, c3⟩ := and3 (show (notStar x && ckE Γ e x && ckEs Γ (e2 :: es) xs) = true from c)
      cases xs with
      | nil => cases c3
      | cons y ys => exact pe_orD (sndE e x h c2).1 (sndOr (e2 :: es) (y :: ys) h c3) fun _ _ => rfl
theorem sndO {G : GCon} {C : CallF} : ∀ (o : Option ME) {X : Cx} {Γ : Gam} (x : Option Expr), CtxOk X Γ G C → ckO Γ o x = true → PO X x (tOI X fun ρ S => evalO G C o ρ S)
  | none, X, Γ, x, h, c => by
    cases x with
    | none => exact po_noneD fun _ _ => rfl
    | some _ => cases c
  | some e, X, Γ, x, h, c => by
    cases x with
    | none => cases c
    | some x => exact po_someD (sndE e x h c).1 fun _ _ => rfl
theorem sndQ {G : GCon} {C : CallF} : ∀ (q : MQ) {X : Cx} {Γ : Gam} (e : Expr), CtxOk X Γ G C → ckQ Γ q e = true → PT X e (tQ X fun ρ S => evalT G C q ρ S)
  | .v a, X, Γ, e, h, c => by
    obtain ⟨c1, c2⟩ := and2 (show (tstOk a e && ckE Γ a e) = true from c)
    exact pt_val' (fun _ _ => rfl) ((sndE a e h c2).2 c1)
  | .and qs, X, Γ, e, h, c => by
    cases e <;> first | (cases c; done) | skip
    rename_i o xs p
    cases o <;> first | (cases c; done) | skip
    obtain ⟨c1, c2⟩ := and2 (show (!xs.isEmpty && ckQs Γ qs xs) = true from c)
    exact (sndQsA qs xs h c2 c1).pt
  | .or qs, X, Γ, e, h, c => by
    cases e <;> first | (cases c; done) | skip
    rename_i o xs p
    cases o <;> first | (cases c; done) | skip
    obtain ⟨c1, c2⟩ := and2 (show (!xs.isEmpty && ckQs Γ qs xs) = true from c)
    exact (sndQsO qs xs h c2 c1).pt
  | .not q, X, Γ, e, h, c => by
    cases e <;> first | (cases c; done) | skip
    rename_i o x p
    cases o <;> first | (cases c; done) | skip
    exact pt_notD (sndQ q x h c) fun _ _ => rfl
theorem sndQsA {G : GCon} {C : CallF} : ∀ (qs : List MQ) {X : Cx} {Γ : Gam} {pos : Pos} (xs : List Expr), CtxOk X Γ G C → ckQs Γ qs xs = true → (!xs.isEmpty) = true → PW X (.BoolOp .And xs pos) (tQ X fun ρ S => evalTs G C qs ρ S)
  | [], X, Γ, pos, xs, h, c, hx => by
    cases xs with
    | nil => cases hx
    | cons _ _ => cases c
  | q :: qs, X, Γ, pos, xs, h, c, hx => by
    cases xs with
    | nil => cases c
    | cons x xs =>
      obtain ⟨c1, c2⟩ := and2 (show (ckQ Γ q x && ckQs Γ qs xs) = true from c)
      cases xs with
      | nil =>
        cases qs with
        | nil => exact pw_and1D (sndQ q x h c1) fun _ _ => rfl
        | cons _ _ => cases c2
      | cons y ys => exact pw_andD (sndQ q x h c1) (sndQsA qs (y :: ys) h c2 rfl) fun _ _ => rfl
theorem sndQsO {G : GCon} {C : CallF} : ∀ (qs : List MQ) {X : Cx} {Γ : Gam} {pos : Pos} (xs : List Expr), CtxOk X Γ G C → ckQs Γ qs xs = true → (!xs.isEmpty) = true → PW X (.BoolOp .Or xs pos) (tQ X fun ρ S => evalTo G C qs ρ S)
  | [], X, Γ, pos, xs, h, c, hx => by
    cases xs with
    | nil => cases hx
    | cons _ _ => cases c
  | q :: qs, X, Γ, pos, xs, h, c, hx => by
    cases xs with
    | nil => cases c
    | cons x xs =>
      obtain ⟨c1, c2⟩ := and2 (show (ckQ Γ q x && ckQs Γ qs xs) = true from c)
      cases xs with
      | nil =>
        cases qs with
        | nil => exact pw_or1D (sndQ q x h c1) fun _ _ => rfl
        | cons _ _ => cases c2
      | cons y ys => exact pw_orD (sndQ q x h c1) (sndQsO qs (y :: ys) h c2 rfl) fun _ _ => rfl
theorem sndF {G : GCon} {C : CallF} : ∀ (qs : List MQ) {X : Cx} {Γ : Gam} (xs : List Expr), CtxOk X Γ G C → ckF Γ qs xs = true → PTs X xs (tQ X fun ρ S => noexc (evalTs G C qs ρ S))
  | [], X, Γ, xs, h, c => by
    cases xs with
    | nil => exact pts_D (.inl ⟨rfl, fun _ _ => rfl⟩)
    | cons _ _ => cases c
  | q :: qs, X, Γ, xs, h, c => by
    match xs, c with
    | [x], c =>
      obtain ⟨c1, c2⟩ := and2 (show (ckQ Γ q x && qs.isEmpty) = true from c)
      obtain rfl := isEmpty_eq c2
      exact pts_D (.inr ⟨x, _, rfl, sndQ q x h c1, fun _ _ => rfl⟩)
theorem sndI {G : GCon} {C : CallF} : ∀ (it : MI) {X : Cx} {Γ : Gam} (tg e : Expr), CtxOk X Γ G C → ckI Γ it tg e = true → PI X tg e (tI X fun ρ S => evalI G C it ρ S)
  | .it a, X, Γ, tg, e, h, c => pi_itD (sndE a e h c).1 fun _ _ => rfl
  | .rng es, X, Γ, tg, e, h, c => by
    cases e <;> first | (cases c; done) | skip
    rename_i fn xs kws p
    cases fn <;> first | (cases c; done) | skip
    rename_i x p2
    cases kws <;> first | (cases c; done) | skip
    obtain ⟨c1, c4⟩ := and2 (show (gbB Γ x "range" && (match (generalizing := false) es, xs with
      | [_], [_] => true
      | [_, _], [_, _] => true
      | _, _ => false) && noStars xs && ckEs Γ es xs) = true from c)
    obtain ⟨c1, c2, c3⟩ := and3 c1
    obtain ⟨rfl, hg⟩ := h.gb c1
    have ha := sndEs es xs h c4
    match es, xs, c2, c3, ha with
    | [a], [y], _, c3, ha =>
      obtain ⟨n1, _⟩ := and2 (show (notStar y && true) = true from c3)
      exact pi_rng1 hg (blt_mem h) ha (star_cons n1) (fun ρ S ds S' q => evalEs_len q) fun _ _ => rfl
    | [a, b], [y, z], _, c3, ha =>
      obtain ⟨n1, n2⟩ := and2 (show (notStar y && (notStar z && true)) = true from c3)
      obtain ⟨n2, _⟩ := and2 n2
      exact pi_rng2 hg (blt_mem h) ha (by rw [star_cons n1, star_cons n2]; rfl) (star_cons n2) (fun ρ S ds S' q => evalEs_len q) fun _ _ => rfl
  | .zip es, X, Γ, tg, e, h, c => by
    match tg, e, c with
    | .Tuple ts k tp, .Call (.Name x p1) [y, z] [] p2, c =>
      obtain ⟨c1, c2, c3⟩ := and3 (show (gbB Γ x "zip" && noStars [y, z] && ckEs Γ es [y, z]) = true from c)
      obtain ⟨rfl, hg⟩ := h.gb c1
      exact pi_zipD hg (blt_mem h) (sndEs es _ h c3) c2 fun _ _ => rfl
  | .enm a, X, Γ, tg, e, h, c => by
    match tg, e, c with
    | .Tuple ts k tp, .Call (.Name x p1) [y] [] p2, c =>
      obtain ⟨c1, c2, c3⟩ := and3 (show (gbB Γ x "enumerate" && notStar y && ckE Γ a y) = true from c)
      obtain ⟨rfl, hg⟩ := h.gb c1
      exact pi_enmD hg (blt_mem h) (sndE a y h c3).1 c2 fun _ _ => rfl
end
end KL
end
section
set_option Elab.async false
set_option linter.all false
set_option maxRecDepth 100000
set_option maxHeartbeats 8000000
set_option autoImplicit false
/-! KLSnd3: statements, checked and sound. -/
namespace KL
open PySem PySem.Spec PyProof.Rows L2

/-- a comprehension that is stored at once -/
def swB (Γ : Gam) (x : Str) (px : Pos) (scope : Scope) (p : Pos) : Bool := decide (Γ.kd x = some .local) && (px.line == p.line) && !(scope.names.any fun (n, k) => n == x && (k == .local || k == .cell))
/-- a plain store: nothing is exchanged -/
def plainB (Γ : Gam) (tg v : Expr) : Bool := match v with
  | .ListComp _ _ scope p => match tg with
    | .Name x px => !(decide (Γ.kd x = some .local) && (px.line == p.line) && !(scope.names.any fun (n, k) => n == x && (k == .local || k == .cell)))
    | _ => false
  | .SetComp _ _ _ _ => false
  | .DictComp _ _ _ _ _ => false
  | .Tuple vs _ _ => match tg with
    | .Tuple ts _ _ => decide (swOf Γ.sc ts vs = some none)
    | .List _ _ => false
    | _ => true
  | _ => notList tg
def namesOf : List MT → Option (List Nat)
  | [] => some []
  | .name i :: ts => (namesOf ts).map (i :: ·)
  | _ => none
/-- several names from the right -/
def parOk (Γ : Gam) (is : List Nat) (xs : List Str) : Bool := decide (is.length = xs.length) && (decide (is.length = 2) || decide (is.length = 3)) && decide is.Nodup && ((is.zip xs).all fun p => slotB Γ p.1 p.2 && decide (Γ.kd p.2 = some .local))
mutual
def ckT (Γ : Gam) : MT → Expr → Bool
  | .name i, e => match e with
    | .Name x _ => slotB Γ i x && locB Γ x
    | _ => false
  | .tup ts, e => match e with
    | .Tuple es _ _ => ckTs Γ ts es
    | _ => false
  | .sub o k, e => match e with
    | .Subscript x y _ => notSlice y && ckE Γ o x && ckE Γ k y
    | _ => false
def ckTs (Γ : Gam) : List MT → List Expr → Bool
  | [], xs => xs.isEmpty
  | t :: ts, xs => match xs with
    | x :: xs => notStar x && ckT Γ t x && ckTs Γ ts xs
    | [] => false
end
def plainAsg (Γ : Gam) (t : MT) (a : ME) (tg v : Expr) : Bool := plainB Γ tg v && notStar tg && ckT Γ t tg && ckE Γ a v
def parAsg (Γ : Gam) (t : MT) (a : ME) (tg v : Expr) : Bool := match t, a, tg, v with
  | .tup ts, .tup es, .Tuple tes _ _, .Tuple vs _ _ => match namesOf ts, swOf Γ.sc tes vs with
    | some is, some (some xs) => parOk Γ is xs && ckEs Γ es vs
    | _, _ => false
  | _, _, _, _ => false
def lcAsg (Γ : Gam) (t : MT) (a : ME) (tg v : Expr) : Bool := match t, a, tg, v with
  | .name i, .comp own elt ctg it ifs, .Name x px, .ListComp y [⟨ct, ci, fs, 0⟩] scope p => slotB Γ i x && swB Γ x px scope p && ckE Γ (.comp own elt ctg it ifs) (.ListComp y [⟨ct, ci, fs, 0⟩] scope p)
  | _, _, _, _ => false
mutual
def ckS (Γ : Gam) : MS → Stmt → Bool
  | .asg t a, s => match s with
    | .Assign [tg] v _ => plainAsg Γ t a tg v || (parAsg Γ t a tg v || lcAsg Γ t a tg v)
    | _ => false
  | .expr a, s => match s with
    | .Expr v _ => notComp v && ckE Γ a v
    | _ => false
  | .ifS c A B, s => match s with
    | .If t a b _ => ckQ Γ c t && ckSs Γ A a && ckSs Γ B b
    | _ => false
  | .whl c A, s => match s with
    | .While t a [] _ => ckQ Γ c t && ckSs Γ A a
    | _ => false
  | .forS t it A, s => match s with
    | .For tg i a [] _ => ckT Γ t tg && notSet i && ckI Γ it tg i && ckSs Γ A a
    | _ => false
  | .ret a, s => match s with
    | .Return (some v) _ => ckE Γ a v
    | _ => false
  | .retN, s => match s with
    | .Return none _ => true
    | _ => false
  | .pass, s => match s with
    | .Pass _ => true
    | _ => false
  | .brk, s => match s with
    | .Break _ => true
    | _ => false
  | .cont, s => match s with
    | .Continue _ => true
    | _ => false
  | .raise _ _, s => match s with
    | .Raise _ _ _ => true
    | _ => false
def ckSs (Γ : Gam) : List MS → List Stmt → Bool
  | [], xs => xs.isEmpty
  | s :: ss, xs => match xs with
    | x :: xs => ckS Γ s x && ckSs Γ ss xs
    | [] => false
end
section
variable {X : Cx} {Γ : Gam} {G : GCon} {C : CallF}
mutual
theorem asgT_nx : ∀ (t : MT) (d : D) (ρ : Env) (S : Store) (R : SR), asgT G C t d ρ S = some R → (∃ ρ' S', R = .nx ρ' S') ∨ ∃ c p ρ' S', R = .exc c p ρ' S'
  | .name i, d, ρ, S, R, h => by cases h; exact .inl ⟨_, _, rfl⟩
  | .tup ts, d, ρ, S, R, h => by
    cases d <;> first | (cases h; done) | skip
    exact asgTs_nx ts _ ρ S R h
  | .sub o k, d, ρ, S, R, h => by
    replace h : (bndS ρ (evalE G C o ρ S) fun x S => bndS ρ (evalE G C k ρ S) fun y S => match setItemD x y d S with
      | some S' => some (.nx ρ S')
      | none => none) = some R := h
    cases e1 : evalE G C o ρ S with
    | none => rw [e1] at h; cases h
    | some r => cases r with
      | exc c p S1 => rw [e1] at h; cases h; exact .inr ⟨_, _, _, _, rfl⟩
      | ok x S1 =>
        rw [e1] at h
        replace h : (bndS ρ (evalE G C k ρ S1) fun y S => match setItemD x y d S with
          | some S' => some (.nx ρ S')
          | none => none) = some R := h
        cases e2 : evalE G C k ρ S1 with
        | none => rw [e2] at h; cases h
        | some r => cases r with
          | exc c p S1 => rw [e2] at h; cases h; exact .inr ⟨_, _, _, _, rfl⟩
          | ok y S2 =>
            rw [e2] at h
            replace h : (match setItemD x y d S2 with
              | some S' => some (SR.nx ρ S')
              | none => none) = some R := h
            cases e3 : setItemD x y d S2 with
            | none => rw [e3] at h; cases h
            | some S3 => rw [e3] at h; cases h; exact .inl ⟨_, _, rfl⟩
theorem asgTs_nx : ∀ (ts : List MT) (ds : List D) (ρ : Env) (S : Store) (R : SR), asgTs G C ts ds ρ S = some R → (∃ ρ' S', R = .nx ρ' S') ∨ ∃ c p ρ' S', R = .exc c p ρ' S'
  | [], ds, ρ, S, R, h => by
    cases ds with
    | nil => cases h; exact .inl ⟨_, _, rfl⟩
    | cons _ _ => cases h
  | t :: ts, ds, ρ, S, R, h => by
    cases ds with
    | nil => cases h
    | cons d ds =>
      replace h : (match asgT G C t d ρ S with
        | some (.nx ρ' S') => asgTs G C ts ds ρ' S'
        | r => r) = some R := h
      cases e1 : asgT G C t d ρ S with
      | none => rw [e1] at h; cases h
      | some r =>
        rw [e1] at h
        rcases asgT_nx t d ρ S r e1 with ⟨ρ', S', rfl⟩ | ⟨c, p, ρ', S', rfl⟩
        · exact asgTs_nx ts ds ρ' S' R h
        · cases h; exact .inr ⟨_, _, _, _, rfl⟩
end
theorem asgTs_len : ∀ {ts : List MT} {ds : List D} {ρ : Env} {S : Store} {ρ' : Env} {S' : Store}, asgTs G C ts ds ρ S = some (.nx ρ' S') → ds.length = ts.length
  | [], ds, ρ, S, ρ', S', h => by
    cases ds with
    | nil => rfl
    | cons _ _ => cases h
  | t :: ts, ds, ρ, S, ρ', S', h => by
    cases ds with
    | nil => cases h
    | cons d ds =>
      replace h : (match asgT G C t d ρ S with
        | some (.nx ρ' S') => asgTs G C ts ds ρ' S'
        | r => r) = some (.nx ρ' S') := h
      cases e1 : asgT G C t d ρ S with
      | none => rw [e1] at h; cases h
      | some r =>
        rw [e1] at h
        rcases asgT_nx t d ρ S r e1 with ⟨ρ1, S1, rfl⟩ | ⟨c, p, ρ1, S1, rfl⟩
        · simp [asgTs_len h]
        · cases h
theorem ckTs_len : ∀ {ts : List MT} {es : List Expr}, ckTs Γ ts es = true → ts.length = es.length ∧ noStars es = true
  | [], es, h => by
    cases es with
    | nil => exact ⟨rfl, rfl⟩
    | cons _ _ => cases h
  | t :: ts, es, h => by
    cases es with
    | nil => cases h
    | cons e es =>
      obtain ⟨c1, c2, c3⟩ := and3 (show (notStar e && ckT Γ t e && ckTs Γ ts es) = true from h)
      obtain ⟨i1, i2⟩ := ckTs_len c3
      exact ⟨by simp [i1], by show (notStar e && es.all notStar) = true; rw [c1]; exact i2⟩
mutual
theorem sndT : ∀ (t : MT) (e : Expr), CtxOk X Γ G C → ckT Γ t e = true → PG X e (gD X fun d ρ S => asgT G C t d ρ S)
  | .name i, e, h, c => by
    cases e <;> first | (cases c; done) | skip
    rename_i x p
    obtain ⟨c1, c2⟩ := and2 (show (slotB Γ i x && locB Γ x) = true from c)
    obtain ⟨l1, l2⟩ := h.loc c2
    exact pg_nameD h.nd (h.slot c1) l1 l2 fun _ _ _ => rfl
  | .tup ts, e, h, c => by
    cases e <;> first | (cases c; done) | skip
    rename_i es k p
    have c : ckTs Γ ts es = true := c
    obtain ⟨l1, l2⟩ := ckTs_len c
    have q := sndTs ts es h c
    obtain ⟨i1, i2⟩ := assign_plain (env := X.env) l2
    refine PG.imp (pg_tup h.calm q i2 i1) fun v σ H Q ⟨Z, ρ, m, S, d, ρ', S', er, hr, rd, e, k⟩ => ?_
    cases d <;> first | (cases e; done) | skip
    rename_i ds
    replace e : asgTs G C ts ds ρ S = some (.nx ρ' S') := e
    obtain ⟨a, vs, rfl, r1, r2⟩ := rd
    exact ⟨a, vs, rfl, r1.sq, by rw [← r2.length, asgTs_len e, l1], Z, ρ, m, S, ds, ρ', S', er, hr, r2, e, k⟩
  | .sub o k, e, h, c => by
    cases e <;> first | (cases c; done) | skip
    rename_i x y p
    obtain ⟨c1, c2, c3⟩ := and3 (show (notSlice y && ckE Γ o x && ckE Γ k y) = true from c)
    exact pg_subD h.hu c1 (sndE o x h c2).1 (sndE k y h c3).1 fun _ _ _ => rfl
theorem sndTs : ∀ (ts : List MT) (es : List Expr), CtxOk X Γ G C → ckTs Γ ts es = true → PGs X es (gDs X fun ds ρ S => asgTs G C ts ds ρ S)
  | [], es, h, c => by
    cases es with
    | nil =>
      refine pgs_nilD fun ds ρ S R e => ?_
      cases ds with
      | nil => cases e; exact ⟨rfl, rfl⟩
      | cons _ _ => cases e
    | cons _ _ => cases c
  | t :: ts, es, h, c => by
    cases es with
    | nil => cases c
    | cons e es =>
      obtain ⟨c1, c2, c3⟩ := and3 (show (notStar e && ckT Γ t e && ckTs Γ ts es) = true from c)
      refine pgs_consD (sndT t e h c2) (sndTs ts es h c3) c1 fun ds ρ S R q => ?_
      cases ds with
      | nil => cases q
      | cons d ds =>
        replace q : (match asgT G C t d ρ S with
          | some (.nx ρ' S') => asgTs G C ts ds ρ' S'
          | r => r) = some (.nx R.1 R.2) := q
        cases e1 : asgT G C t d ρ S with
        | none => rw [e1] at q; cases q
        | some r =>
          rw [e1] at q
          rcases asgT_nx t d ρ S r e1 with ⟨ρ1, S1, rfl⟩ | ⟨cc, p, ρ1, S1, rfl⟩
          · exact ⟨d, ds, ρ1, S1, rfl, e1, q⟩
          · cases q
end
/-! ### stores -/
theorem notComp_sw {v : Expr} {tg : Option Expr} {l : Nat} {env : PySem.Env} (h : notComp v = true) : swapsWith v tg l env = pure false := by
  cases v <;> first | rfl | (cases h; done)
theorem plain_ok {tg v : Expr} (h : CtxOk X Γ G C) (c : plainB Γ tg v = true) (l : Nat) : swapsWithSole [tg] v l X.env = pure false ∧ swappedStores [tg] v X.env = pure none := by
  have hk : X.env.scope.kind = .function := by rw [h.sc]; exact h.kd
  by_cases hc : notComp v = true
  · refine ⟨notComp_sw hc, ?_⟩
    by_cases ht : ∃ vs k p, v = .Tuple vs k p
    · obtain ⟨vs, k, p, rfl⟩ := ht
      by_cases hts : ∃ ts k p, tg = .Tuple ts k p
      · obtain ⟨ts, k', p', rfl⟩ := hts
        have c : decide (swOf Γ.sc ts vs = some none) = true := c
        exact sw_eq hk (by rw [h.sc]; exact of_decide_eq_true c)
      · refine sw_no (fun ⟨ts, k', p', vs', k2, p2, e1, e2⟩ => hts ⟨ts, k', p', e1⟩) fun ⟨ts, p', vs', k2, p2, e1, e2⟩ => ?_
        subst e1
        cases c
    · exact sw_no (fun ⟨ts, k', p', vs', k2, p2, e1, e2⟩ => ht ⟨vs', k2, p2, e2⟩) fun ⟨ts, p', vs', k2, p2, e1, e2⟩ => ht ⟨vs', k2, p2, e2⟩
  · cases v <;> first | (exact (hc rfl).elim) | (cases c; done) | skip
    rename_i elt gs scope p
    cases tg <;> first | (cases c; done) | skip
    rename_i x px
    refine ⟨?_, rfl⟩
    have c : (!(decide (Γ.kd x = some .local) && (px.line == p.line) && !(scope.names.any fun (n, k) => n == x && (k == .local || k == .cell)))) = true := c
    rw [Bool.not_eq_true'] at c
    show swapsWith (.ListComp elt gs scope p) (some (.Name x px)) l X.env = pure false
    have hb : X.env.blockKind = .function := by unfold Env.blockKind; rw [hk]; rfl
    have ek : X.env.kindOf x = Γ.kd x := by
      show X.env.scope.names.lookup x = Γ.sc.names.lookup x
      rw [h.sc]
    unfold swapsWith
    show pure (X.env.blockKind == .function && X.env.kindOf x == some .local && px.line == p.line && !(scope.names.any fun (n, k) => n == x && (k == .local || k == .cell))) = _
    rw [hb, ek]
    have e1 : (Γ.kd x == some NameKind.local) = decide (Γ.kd x = some NameKind.local) := by
      by_cases z : Γ.kd x = some NameKind.local
      · rw [z]; rfl
      · rw [decide_eq_false z]
        exact beq_eq_false_iff_ne.mpr z
    rw [e1]
    have e2 : (ScopeKind.function == ScopeKind.function && decide (Γ.kd x = some NameKind.local) && px.line == p.line && !(scope.names.any fun (n, k) => n == x && (k == .local || k == .cell))) = false := by
      rw [show (ScopeKind.function == ScopeKind.function) = true from rfl, Bool.true_and]; exact c
    rw [e2]
theorem sw_yes {elt : Expr} {gs : List Comprehension} {scope : Scope} {p px : Pos} {x : Str} (h : CtxOk X Γ G C) (c : swB Γ x px scope p = true) (l : Nat) : X.env.scope.names.lookup x = some .local ∧ swapsWith (.ListComp elt gs scope p) (some (.Name x px)) l X.env = pure true := by
  unfold swB at c
  obtain ⟨c1, c2, c3⟩ := and3 c
  have c1 := of_decide_eq_true c1
  have e : X.env.scope.names.lookup x = some .local := by rw [h.sc]; exact c1
  refine ⟨e, sw_true (by rw [h.sc]; exact h.kd) e c2 ?_⟩
  rw [Bool.not_eq_true'] at c3
  exact c3
theorem names_asg : ∀ {ts : List MT} {is : List Nat} {ds : List D} {ρ : Env} {S : Store} {R : SR}, namesOf ts = some is → asgTs G C ts ds ρ S = some R → ∃ ρ', bindNs is ds ρ = some ρ' ∧ R = .nx ρ' S
  | [], is, ds, ρ, S, R, h, e => by
    cases (show some [] = some is from h)
    cases ds with
    | nil => cases e; exact ⟨ρ, rfl, rfl⟩
    | cons _ _ => cases e
  | t :: ts, is, ds, ρ, S, R, h, e => by
    cases t <;> first | (cases h; done) | skip
    rename_i i
    obtain ⟨js, h1, rfl⟩ := Option.map_eq_some_iff.mp (show (namesOf ts).map (i :: ·) = some is from h)
    cases ds with
    | nil => cases e
    | cons d ds => exact names_asg (ds := ds) h1 (show asgTs G C ts ds (ρ.set i (some d)) S = some R from e)
theorem sndAsg {t : MT} {a : ME} {tg v : Expr} {pos : Pos} (h : CtxOk X Γ G C) (c : (plainAsg Γ t a tg v || (parAsg Γ t a tg v || lcAsg Γ t a tg v)) = true) : PS X (.Assign [tg] v pos) (tS X fun ρ S => exec G C (.asg t a) ρ S) := by
  rw [Bool.or_eq_true, Bool.or_eq_true] at c
  rcases c with c | c | c
  · unfold plainAsg at c
    obtain ⟨b1, c4⟩ := and2 c
    obtain ⟨c1, c2, c3⟩ := and3 b1
    obtain ⟨q1, q2⟩ := plain_ok h c1 pos.line
    exact ps_asgD (sndE a v h c4).1 (sndT t tg h c3) q1 q2 c2 (asgT_nx t) fun _ _ => rfl
  · unfold parAsg at c
    split at c
    · rename_i ts es tes k1 p1 vs k2 p2
      split at c
      · rename_i is xs e1 e2
        obtain ⟨c1, c2⟩ := and2 c
        unfold parOk at c1
        obtain ⟨b1, c6⟩ := and2 c1
        obtain ⟨c3, c4, c5⟩ := and3 b1
        have hk : X.env.scope.kind = .function := by rw [h.sc]; exact h.kd
        refine ps_parD h.calm h.nd (sndEs es vs h c2) (sw_eq hk (by rw [h.sc]; exact e2)) (fun k i x g1 g2 => ?_) (of_decide_eq_true c3) (by simpa using c4) (of_decide_eq_true c5) fun ρ S R q => ?_
        · have hz : (i, x) ∈ is.zip xs := by
            refine List.mem_of_getElem? (i := k) ?_
            rw [List.getElem?_zip_eq_some]
            exact ⟨g1, g2⟩
          obtain ⟨d1, d2⟩ := and2 (List.all_eq_true.mp c6 _ hz)
          exact ⟨h.slot d1, by rw [h.sc]; exact of_decide_eq_true d2⟩
        · replace q : (bndS ρ (bnd (evalEs G C es ρ S) fun ds S => ok (.tup ds) S) fun d S => asgT G C (.tup ts) d ρ S) = some R := q
          cases e3 : evalEs G C es ρ S with
          | none => rw [e3] at q; cases q
          | some r => cases r with
            | exc cc p S1 => rw [e3] at q; cases q; exact .inr ⟨_, _, _, _, rfl⟩
            | ok ds S1 =>
              rw [e3] at q
              obtain ⟨ρ', g1, g2⟩ := names_asg e1 (show asgTs G C ts ds ρ S1 = some R from q)
              exact .inl ⟨ds, S1, ρ', rfl, g1, g2⟩
      · cases c
    · cases c
  · unfold lcAsg at c
    split at c
    · rename_i i own elt ctg it ifs x px y ct ci fs scope p
      obtain ⟨c1, c2, c3⟩ := and3 c
      obtain ⟨l1, l2⟩ := sw_yes (elt := y) (gs := [⟨ct, ci, fs, 0⟩]) h c2 pos.line
      obtain ⟨ok, hown, hg, hi, ht, he, hs⟩ := sndC (own := own) (elt := elt) (tg := ctg) (it := it) (ifs := ifs) h (fun c => sndI it ct ci h c) (fun {X' Γ'} h c => sndF ifs fs h c) (fun {X' Γ'} h c => (sndE elt y h c).1) c3
      refine PS.imp (ps_setLc h.calm h.nd (h.slot c1) l1 l2 hi ok hg ht he hs) fun D σ H ⟨Z, ρ, m, S, r, er, hr, ef, k⟩ => ?_
      obtain ⟨d, S1, e1, ef⟩ := bndS_ok (show (bndS ρ (evalE G C (.comp own elt ctg it ifs) ρ S) fun d S => asgT G C (.name i) d ρ S) = some r from ef) k
      cases ef
      have e9 : (ownP Γ own).map (·.2) = own := by unfold ownP; rw [List.map_map]; exact List.map_id' _
      rw [e9]
      exact lc_read hown (f := fun ρ S => evalE G C (.comp own elt ctg it ifs) ρ S) (fun _ _ => rfl) ⟨Z, ρ, m, S, d, S1, er, hr, e1, fun m1 H1 v x1 hr1 r1 => k m1 H1 _ x1 hr1 ((er.mono x1.mono).set r1)⟩
    · cases c
mutual
theorem sndS : ∀ (s : MS) (st : Stmt), CtxOk X Γ G C → ckS Γ s st = true → PS X st (tS X fun ρ S => exec G C s ρ S)
  | .asg t a, st, h, c => by
    cases st <;> first | (cases c; done) | skip
    rename_i tgs v p
    match tgs, c with
    | [tg], c => exact sndAsg h c
  | .expr a, st, h, c => by
    cases st <;> first | (cases c; done) | skip
    rename_i v p
    obtain ⟨c1, c2⟩ := and2 (show (notComp v && ckE Γ a v) = true from c)
    exact ps_exprD (sndE a v h c2).1 (notComp_sw c1) fun _ _ => rfl
  | .ifS q A B, st, h, c => by
    cases st <;> first | (cases c; done) | skip
    rename_i t a b p
    obtain ⟨c1, c2, c3⟩ := and3 (show (ckQ Γ q t && ckSs Γ A a && ckSs Γ B b) = true from c)
    exact ps_ifD (sndQ q t h c1) (sndSs A a h c2) (sndSs B b h c3) fun _ _ => rfl
  | .whl q A, st, h, c => by
    cases st <;> first | (cases c; done) | skip
    rename_i t a els p
    cases els with
    | cons _ _ => cases c
    | nil =>
      obtain ⟨c1, c2⟩ := and2 (show (ckQ Γ q t && ckSs Γ A a) = true from c)
      exact ps_whlD h.xe (sndQ q t h c1) (sndSs A a h c2) (N := bigN) fun _ _ => rfl
  | .forS t it A, st, h, c => by
    cases st <;> first | (cases c; done) | skip
    rename_i tg i a els p
    cases els with
    | cons _ _ => cases c
    | nil =>
      obtain ⟨b1, c4⟩ := and2 (show (ckT Γ t tg && notSet i && ckI Γ it tg i && ckSs Γ A a) = true from c)
      obtain ⟨c1, c2, c3⟩ := and3 b1
      exact ps_forD h.xe h.calm (sndI it tg i h c3) (sndT t tg h c1) (sndSs A a h c4) (fun v => noSet_fold c2 v) (asgT_nx t) fun _ _ => rfl
  | .ret a, st, h, c => by
    cases st <;> first | (cases c; done) | skip
    rename_i v p
    cases v with
    | none => cases c
    | some v => exact ps_retD (sndE a v h c).1 fun _ _ => rfl
  | .retN, st, h, c => by
    cases st <;> first | (cases c; done) | skip
    rename_i v p
    cases v with
    | none => exact ps_retND fun _ _ => rfl
    | some v => cases c
  | .pass, st, h, c => by
    cases st <;> first | (cases c; done) | skip
    exact ps_passD fun _ _ => rfl
  | .brk, st, h, c => by
    cases st <;> first | (cases c; done) | skip
    exact ps_brkD fun _ _ => rfl
  | .cont, st, h, c => by
    cases st <;> first | (cases c; done) | skip
    exact ps_ctD fun _ _ => rfl
  | .raise k es, st, h, c => by
    refine ps_raiseD fun ρ S R e => ?_
    replace e : (bndS ρ (evalEs G C es ρ S) fun ds S => some (SR.exc k ds ρ S)) = some R := e
    cases e1 : evalEs G C es ρ S with
    | none => rw [e1] at e; cases e
    | some r => cases r with
      | ok ds S1 => rw [e1] at e; cases e; exact ⟨_, _, _, _, rfl⟩
      | exc cc p S1 => rw [e1] at e; cases e; exact ⟨_, _, _, _, rfl⟩
theorem sndSs : ∀ (ss : List MS) (sts : List Stmt), CtxOk X Γ G C → ckSs Γ ss sts = true → PSs X sts (tS X fun ρ S => execs G C ss ρ S)
  | [], sts, h, c => by
    cases sts with
    | nil => exact pss_nilD fun _ _ => rfl
    | cons _ _ => cases c
  | s :: ss, sts, h, c => by
    cases sts with
    | nil => cases c
    | cons st sts =>
      obtain ⟨c1, c2⟩ := and2 (show (ckS Γ s st && ckSs Γ ss sts) = true from c)
      exact pss_consD (sndS s st h c1) (sndSs ss sts h c2) fun _ _ => rfl
end
end
end KL
end
section
set_option Elab.async false
set_option linter.all false
set_option maxRecDepth 100000
set_option maxHeartbeats 4000000
set_option autoImplicit false
/-! KLFn: defs keep their promises. -/
namespace KL
open PySem PySem.Spec PyProof.Rows L2

section
variable {P : Program} {w : World} {K : PySem.W.Frag} {H H' : Hp} {L L' : Addr → Prop} {m m' : List Addr}
mutual
/-- a datum without refs leans on no store -/
theorem Rep.pure (hL : ∀ a, L' a → L a) : ∀ {d : D} {v : V}, pureD d = true → Rep P w K H L m d v → Rep P w K H L' m' d v
  | .non, _, _, h => h
  | .bl _, _, _, h => h
  | .int _, _, _, h => h
  | .str _, _, _, h => h
  | .tup xs, _, c, h => by
    obtain ⟨a, vs, e, h1, h2⟩ := h
    exact ⟨a, vs, e, h1.elim (fun z => .inl ⟨z.1, fun q => z.2 (hL _ q)⟩) .inr, Reps.pure hL (show pureDs xs = true from c) h2⟩
  | .lst xs, _, c, h => by
    obtain ⟨a, vs, e, h1, h2⟩ := h
    exact ⟨a, vs, e, ⟨h1.1, fun q => h1.2 (hL _ q)⟩, Reps.pure hL (show pureDs xs = true from c) h2⟩
  | .dS ks ds, _, c, h => by
    obtain ⟨a, vs, e, h1, h2, h3, h4⟩ := h
    exact ⟨a, vs, e, h1, fun q => h2 (hL _ q), h3, Reps.pure hL (show pureDs ds = true from c) h4⟩
  | .dT ks ds, _, c, h => by
    obtain ⟨a, xs, vs, e, h1, h2, h3, h4, h5⟩ := h
    obtain ⟨c1, c2⟩ := and2 (show (pureDs ks && pureDs ds) = true from c)
    exact ⟨a, xs, vs, e, h1, fun q => h2 (hL _ q), KReps.pure hL c1 h3, Reps.pure hL c2 h4, h5⟩
  | .ref n, _, c, h => by cases c
  | .scr ns, _, c, h => by cases c
theorem Reps.pure (hL : ∀ a, L' a → L a) : ∀ {ds : List D} {vs : List V}, pureDs ds = true → Reps P w K H L m ds vs → Reps P w K H L' m' ds vs
  | [], _, _, h => h
  | d :: ds, _, c, h => by
    obtain ⟨v, us, e, h1, h2⟩ := h
    obtain ⟨c1, c2⟩ := and2 (show (pureD d && pureDs ds) = true from c)
    exact ⟨v, us, e, Rep.pure hL c1 h1, Reps.pure hL c2 h2⟩
theorem KReps.pure (hL : ∀ a, L' a → L a) : ∀ {ds : List D} {xs : List (KK × Addr × Value)}, pureDs ds = true → KReps P w K H L m ds xs → KReps P w K H L' m' ds xs
  | [], _, _, h => h
  | d :: ds, _, c, h => by
    obtain ⟨k, b, u, ys, e, h1, h2, h3, h4⟩ := h
    obtain ⟨c1, c2⟩ := and2 (show (pureD d && pureDs ds) = true from c)
    exact ⟨k, b, u, ys, e, h1, h2, Rep.pure hL c1 h3, KReps.pure hL c2 h4⟩
end
variable {Z : Addr → Prop} {S : Store}
theorem HR.nil (h : HR P w K Z m S H) : HR P w K (LL Z m S) [] [] H :=
  ⟨rfl, List.nodup_nil, fun a ha => (nomatch ha), fun a ha => ⟨ha.elim (fun z => (h.z a z).1) fun z => h.dom a z.mem, fun z => (nomatch z)⟩, fun n o a h1 => by simp at h1⟩
/-- behind a call that knew nothing of the store -/
theorem HR.back (h : HR P w K Z m S H) {m1 : List Addr} {S1 : Store} (x : Ext [] [] H m1 S1 H') : Ext m S H m S H' ∧ HR P w K Z m S H' := by
  have no : ∀ b, ¬ Lv [] [] b := fun b z => by obtain ⟨n, o, e, _⟩ := z; simp at e
  have keep : ∀ b o, H b = some o → H' b = some o := fun b o e => x.keep b o e (no b)
  have ex : Ext m S H m S H' := ⟨⟨[], by simp⟩, fun b o e _ => keep b o e, fun b o e n => n⟩
  have ne : ∀ a, H a ≠ none → H' a ≠ none := fun a e z => by
    cases q : H a with
    | none => exact e q
    | some o => rw [keep a o q] at z; cases z
  refine ⟨ex, h.len, h.nd, fun a ha => ne a (h.dom a ha), fun a ha => ⟨ne a (h.z a ha).1, (h.z a ha).2⟩, fun n o a h1 h2 h3 => ?_⟩
  have hm : a ∈ m := List.mem_of_getElem? h3
  cases q : H a with
  | none => exact (h.dom a hm q).elim
  | some u => exact (h.obj n o a h1 h2 h3).mono ex.mono ((keep a u q).trans q.symm)
end
section
variable {P : Program} {w : World} {K : PySem.W.Frag} {mg : Str → Option Value} {base : Heap}
theorem start_er {X : Cx} {H : Hp} {L : Addr → Prop} {m : List Addr} {N : List Str} {ds : List D} {vs : List V} {n : Nat} (r : RPs X H L m ds vs) (hn : n = N.length - vs.length) : ER X H L m (L2.start N vs) (ds.map some ++ List.replicate n none) := by
  have hl := r.length
  unfold L2.start
  refine ⟨by simp [hl, hn], fun i d e => ?_⟩
  by_cases hi : i < ds.length
  · rw [List.getElem?_append_left (by simpa using hi), List.getElem?_map] at e
    obtain ⟨d', e1, e2⟩ := Option.map_eq_some_iff.mp e
    cases e2
    obtain ⟨v, h1, h2⟩ := r.at e1
    refine ⟨v, ?_, h2⟩
    rw [List.getElem?_append_left (by simpa using (List.getElem?_eq_some_iff.mp h1).1), List.getElem?_map, h1]; rfl
  · rw [List.getElem?_append_right (by simpa using hi), List.getElem?_replicate] at e
    split at e <;> cases e
/-- a def of the text: its place, its names -/
structure FD where
  name : Str
  N : List Str
  ps : List Str
  args : Arguments
  body : List Stmt
  sc : Scope
  d : MDef
/-- a body that was checked keeps the promise -/
theorem fn_snd {x qual : Str} {args : Arguments} {body : List Stmt} {sc : Scope} {f : Addr} {fd : FuncData} {N ps : List Str} {k j : Nat} {d : MDef} {Γ : Gam} {G : GCon} {T : Nat → Option MDef} (F : FunD K x qual args body sc [] [] f fd) (S0 : FnScope N ps sc)
    (hT : T j = some d) (hnp : d.np = ps.length) (hns : d.ns = N.length) (hle : ps.length ≤ N.length) (hΓ : Γ.N = N ∧ Γ.sc = sc ∧ Γ.fnl = true) (ck : ckSs Γ d.body body = true)
    (ctx : ∀ X : Cx, X.prog = P → X.w = w → X.K = K → X.mg = mg → X.base = base → Room k X.A → (∀ b ∈ blts, X.mg b = none) ∧ (∀ g x d, Γ.gnm g = some x → G g = some d → ∃ u v, X.mg x = some u ∧ RelV v u ∧ ∀ H L m, RP X H L m d v) ∧
      (∀ f x n, Γ.fnm f = some (x, n) → ∃ (fa : Addr) (fd : FuncData) (ps : List Str), X.mg x = some (.ref fa) ∧ PySem.W.keepIn X.K (.ref fa) = true ∧ Binds X.K fd ps [] ∧ FnOk X.prog X.w X.K X.mg X.base CX0 k fa fd ps (spK X.prog X.w X.K (callK G T k) n f))) :
    FnOk P w K mg base CX0 (k + 1) f fd ps (spK P w K (callK G T (k + 1)) ps.length j) := by
  refine F.ok S0 (fun vs H Q E h => h.1) fun cdv A outer s H vs Q E hr hsp => ?_
  obtain ⟨hlen, Z, m, S, ds, r, S', h1, h2, e, kk⟩ := hsp
  -- the context
  have hx : CtxOk (cxOf CX0 P w K mg base N qual sc f cdv A outer s H E).nox Γ G (callK G T k) := by
    obtain ⟨g1, g2, g3⟩ := ctx (cxOf CX0 P w K mg base N qual sc f cdv A outer s H E).nox rfl rfl rfl rfl rfl hr
    refine ⟨hΓ.1.symm, S0.nd, hΓ.2.1.symm, by rw [hΓ.2.1]; exact S0.kind, fun _ _ => rfl, rfl, hr.units, rfl, g1, g2, fun f x n e => ?_⟩
    obtain ⟨fa, fd, ps, q1, q2, q3, q4⟩ := g3 f x n e
    exact ⟨k, fa, fd, ps, hr, q1, q2, q3, q4⟩
  refine ⟨_, (sndSs d.body body hx ck).nox, ?_⟩
  have e : callD G (callK G T k) d ds S = some (.ok r S') := by
    have : callK G T (k + 1) j ds S = callD G (callK G T k) d ds S := by
      show (match T j with
        | some d => callD G (callK G T k) d ds S
        | none => none) = _
      rw [hT]
    rw [← this]; exact e
  have hn : d.ns - d.np = N.length - vs.length := by rw [hnp, hns, hlen]
  unfold callD at e
  by_cases hl : ds.length = d.np
  · rw [if_pos hl] at e
    by_cases hp : d.pur = true
    · rw [if_pos hp] at e
      by_cases hpd : pureDs ds = true
      · rw [if_pos hpd] at e
        cases e1 : runBody G (callK G T k) d ds [] with
        | none => rw [e1] at e; cases e
        | some R =>
          rw [e1] at e
          cases R with
          | exc c p S1 => cases e
          | ok r1 S1 =>
            replace e : (if pureD r1 = true then ok r1 S else none) = some (.ok r S') := e
            obtain ⟨hpr, e⟩ := ite_ok e
            obtain ⟨rfl, rfl⟩ := ok_ok e
            unfold runBody at e1
            have er : ER (cxOf CX0 P w K mg base N qual sc f cdv A outer s H E).nox H (LL (LL Z m S) [] []) [] (L2.start N vs) (ds.map some ++ List.replicate (d.ns - d.np) none) :=
              start_er (X := (cxOf CX0 P w K mg base N qual sc f cdv A outer s H E).nox) (Reps.pure (fun a z => z.elim id fun z => by obtain ⟨n, o, e, _⟩ := z; simp at e) hpd h2) hn
            have fin : ∀ {m1 : List Addr} {H1 : Hp} {v : V}, Ext [] [] H m1 S1 H1 → RP (cxOf CX0 P w K mg base N qual sc f cdv A outer s H E).nox H1 (LL (LL Z m S) m1 S1) m1 r1 v → Q v H1 := fun {m1 H1 v} x rv => by
              obtain ⟨y1, y2⟩ := h1.back x
              exact kk m H1 v y1 y2 (Rep.pure (fun a z => .inl z) hpr rv)
            cases e2 : execs G (callK G T k) d.body (ds.map some ++ List.replicate (d.ns - d.np) none) [] with
            | none => rw [e2] at e1; cases e1
            | some R =>
              rw [e2] at e1
              refine ⟨LL Z m S, _, [], [], R, er, h1.nil, e2, ?_⟩
              cases R with
              | nx ρ' S2 =>
                obtain ⟨rfl, rfl⟩ := ok_ok e1
                exact fun m1 H1 σ1 x1 hr1 er1 => fin (v := .non) x1 rfl
              | ret d' S2 =>
                obtain ⟨rfl, rfl⟩ := ok_ok e1
                exact fun m1 H1 v x1 hr1 r1 => fin x1 r1
              | exc c p ρ' S2 => cases e1
              | brk ρ' S2 => cases e1
              | ct ρ' S2 => cases e1
      · rw [if_neg hpd] at e; cases e
    · rw [if_neg hp] at e
      unfold runBody at e
      have er : ER (cxOf CX0 P w K mg base N qual sc f cdv A outer s H E).nox H (LL Z m S) m (L2.start N vs) (ds.map some ++ List.replicate (d.ns - d.np) none) :=
        start_er (X := (cxOf CX0 P w K mg base N qual sc f cdv A outer s H E).nox) h2 hn
      cases e2 : execs G (callK G T k) d.body (ds.map some ++ List.replicate (d.ns - d.np) none) S with
      | none => rw [e2] at e; cases e
      | some R =>
        rw [e2] at e
        refine ⟨Z, _, m, S, R, er, h1, e2, ?_⟩
        cases R with
        | nx ρ' S2 =>
          obtain ⟨rfl, rfl⟩ := ok_ok e
          exact fun m1 H1 σ1 x1 hr1 er1 => kk m1 H1 .non x1 hr1 rfl
        | ret d' S2 =>
          obtain ⟨rfl, rfl⟩ := ok_ok e
          exact fun m1 H1 v x1 hr1 r1 => kk m1 H1 v x1 hr1 r1
        | exc c p ρ' S2 => cases e
        | brk ρ' S2 => cases e
        | ct ρ' S2 => cases e
  · rw [if_neg hl] at e; cases e
end
end KL
end
section
set_option Elab.async false
set_option linter.all false
set_option maxRecDepth 100000
set_option maxHeartbeats 4000000
set_option autoImplicit false
/-! KLLaw: all defs of a text at once. -/
namespace KL
open PySem PySem.Spec PyProof.Rows L2

/-- a def: its name, its row, its names, what it does -/
structure Ent where
  name : Str
  st : Stmt
  N : List Str
  ps : List Str
  d : MDef
def gamOf (tab : List Ent) (gs : List (Str × D)) (e : Ent) : Gam := { N := e.N, sc := defScope e.st, fnl := true, fnm := fun j => (tab[j]?).map fun e => (e.name, e.ps.length), gnm := fun j => (gs[j]?).map (·.1) }
def GOf (gs : List (Str × D)) : GCon := fun j => (gs[j]?).map (·.2)
def TOf (tab : List Ent) : Nat → Option MDef := fun j => (tab[j]?).map (·.d)
def scB (N ps : List Str) (sc : Scope) : Bool :=
  decide (sc.kind = .function) && !sc.isCoroutine && !sc.isGenerator && decide N.Nodup && decide (N.take ps.length = ps) &&
  (ps.all fun x => match sc.names.lookup x with
    | some .local => true
    | some .cell => true
    | _ => false) && sc.names.all fun y => match y.2 with
      | .free => false
      | _ => true
theorem scB_ok {N ps : List Str} {sc : Scope} (h : scB N ps sc = true) : FnScope N ps sc := by
  unfold scB at h
  obtain ⟨b1, c7⟩ := and2 h
  obtain ⟨b2, c6⟩ := and2 b1
  obtain ⟨b3, c5⟩ := and2 b2
  obtain ⟨b4, c4⟩ := and2 b3
  obtain ⟨c1, c2, c3⟩ := and3 b4
  rw [Bool.not_eq_true'] at c2 c3
  refine ⟨of_decide_eq_true c1, c2, c3, of_decide_eq_true c4, of_decide_eq_true c5, fun x hx => ?_, fun y hy e => ?_⟩
  · have q := List.all_eq_true.mp c6 x hx
    split at q <;> first | exact .inl (by assumption) | exact .inr (by assumption) | cases q
  · have q := List.all_eq_true.mp c7 y hy
    rw [e] at q
    cases q
def entB (tab : List Ent) (gs : List (Str × D)) (e : Ent) : Bool :=
  decide (e.d.np = e.ps.length) && decide (e.d.ns = e.N.length) && decide (e.ps.length ≤ e.N.length) && scB e.N e.ps (defScope e.st) && ckSs (gamOf tab gs e) e.d.body (defBody e.st)
/-- how arguments bind: each is written -/
def BindsE (e : Ent) : Prop := ∀ (kV doc pm : Value) (an : Option Addr) (cdv ct : Value) (us : List Value), us.length = e.ps.length → bindArgs (PySem.W.fnOf e.name e.name (defArgs e.st) (defBody e.st) (defScope e.st) .none kV doc pm an cdv ct) ⟨us, []⟩ = pure (e.ps.zip us)
section
variable {P : Program} {w : World} {K : PySem.W.Frag} {mg : Str → Option Value} {base : Heap} {tab : List Ent} {gs : List (Str × D)}
theorem all_fns (hck : tab.all (entB tab gs) = true) (hF : ∀ (j : Nat) (e : Ent), tab[j]? = some e → ∃ fd, FunD K e.name e.name (defArgs e.st) (defBody e.st) (defScope e.st) [] [] (He.fAd K (e.name, none)) fd)
    (hmg : ∀ (j : Nat) (e : Ent), tab[j]? = some e → mg e.name = some (.ref (He.fAd K (e.name, none)))) (hb : ∀ (j : Nat) (e : Ent), tab[j]? = some e → BindsE e) (hfree : ∀ b ∈ blts, mg b = none)
    (hgs : ∀ (j : Nat) (x : Str) (d : D), gs[j]? = some (x, d) → ∃ u v, mg x = some u ∧ RelV v u ∧ ∀ (P : Program) (w : World) (H : Hp) (L : Addr → Prop) (m : List Addr), Rep P w K H L m d v) :
    ∀ (k j : Nat) (e : Ent), tab[j]? = some e → ∀ fd, FunD K e.name e.name (defArgs e.st) (defBody e.st) (defScope e.st) [] [] (He.fAd K (e.name, none)) fd → Binds K fd e.ps [] ∧ (∀ (s : Shared) (us : List Value), us.length = e.ps.length → BindsTo s fd ⟨us, []⟩ (e.ps.zip us)) ∧ PySem.W.keepIn K (.ref (He.fAd K (e.name, none))) = true ∧
      FnOk P w K mg base CX0 k (He.fAd K (e.name, none)) fd e.ps (spK P w K (callK (GOf gs) (TOf tab) k) e.ps.length j) := by
  intro k
  induction k with
  | zero =>
    intro j e he fd F
    have no : ∀ {vs : List V} {H : Hp} {Q : VK} {E : XK}, ¬ spK P w K (callK (GOf gs) (TOf tab) 0) e.ps.length j vs H Q E := fun {vs H Q E} ⟨_, Z, m, S, ds, r, S', _, _, e9, _⟩ => nomatch e9
    exact ⟨F.bindsN (hb j e he), fun s us hl => F.bindsA (hb j e he) s us hl, F.kp, fun vs H Q E h => (no h).elim, fun A outer s H args us vs Q E _ _ _ _ h => (no h).elim⟩
  | succ k ih =>
    intro j e he fd F
    have c := List.all_eq_true.mp hck e (List.mem_of_getElem? he)
    unfold entB at c
    obtain ⟨b1, c5⟩ := and2 c
    obtain ⟨b2, c4⟩ := and2 b1
    obtain ⟨c1, c2, c3⟩ := and3 b2
    refine ⟨F.bindsN (hb j e he), fun s us hl => F.bindsA (hb j e he) s us hl, F.kp, ?_⟩
    refine fn_snd F (scB_ok c4) (d := e.d) (Γ := gamOf tab gs e) (by unfold TOf; rw [he]; rfl) (of_decide_eq_true c1) (of_decide_eq_true c2) (of_decide_eq_true c3) ⟨rfl, rfl, rfl⟩ c5 fun X hP hw hK hm hba hr => ?_
    subst hP hw hK hm hba
    refine ⟨hfree, fun g x d h1 h2 => ?_, fun f x n h1 => ?_⟩
    · obtain ⟨⟨x', d'⟩, q1, q2⟩ := Option.map_eq_some_iff.mp (show (gs[g]?).map (·.1) = some x from h1)
      obtain ⟨⟨x2, d2⟩, q3, q4⟩ := Option.map_eq_some_iff.mp (show (gs[g]?).map (·.2) = some d from h2)
      rw [q1] at q3
      cases q3
      cases q2; cases q4
      obtain ⟨u, v, g1, g2, g3⟩ := hgs g _ _ q1
      exact ⟨u, v, g1, g2, fun H L m => g3 _ _ H L m⟩
    · obtain ⟨e', q1, q2⟩ := Option.map_eq_some_iff.mp (show (tab[f]?).map (fun e => (e.name, e.ps.length)) = some (x, n) from h1)
      cases q2
      obtain ⟨fd', F'⟩ := hF f e' q1
      obtain ⟨g1, _, g2, g3⟩ := ih f e' q1 fd' F'
      exact ⟨_, fd', e'.ps, hmg f e' q1, g2, g1, g3⟩
/-- the law's promise at a script -/
theorem law_sp {C : CallF} {j : Nat} {ns : List Int} {H : Hp} {a : Addr} {E : XK} (hS : SqL K H a (ns.map V.int)) (h : ∃ S', C j [.scr ns] [] = some (.ok (.bl true) S')) : spK P w K C 1 j [.ref a] H (fun v _ => v = .bl true) E := by
  obtain ⟨S', e⟩ := h
  have no : ∀ b, ¬ LL (fun _ => False) [] [] b := fun b z => z.elim id fun z => by obtain ⟨n, o, e, _⟩ := z; simp at e
  refine ⟨rfl, fun _ => False, [], [], [.scr ns], .bl true, S', ⟨rfl, List.nodup_nil, fun a ha => (nomatch ha), fun a ha => ha.elim, fun n o a h1 => by simp at h1⟩, ?_, e, fun m' H' v _ _ r => r⟩
  refine ⟨.ref a, [], rfl, ⟨a, rfl, ?_⟩, rfl⟩
  rcases hS with hS | hS
  · exact .inl ⟨hS, no a⟩
  · exact .inr hS
end
end KL
end
section
set_option Elab.async false
set_option linter.all false
set_option maxRecDepth 100000
/-! the defs of keyloud_k02_levels_at_moments in the small language (written by gen_law.py) -/
namespace K02
open KL

def m_is_number : MDef := { np := 3, ns := 3, pur := true, body := [
  .ret (.andE [.callB .isInt [.var 0], .notE (.callB .isBool [.var 0]), .chain .le .le (.var 1) (.var 0) (.var 2)])] }
def m_is_good_phase : MDef := { np := 2, ns := 4, pur := true, body := [
  .ifS (.or [.not (.v (.callB .isTup [.var 0])), .v (.cmp .eq (.var 0) (.tup [])), .not (.v (.callB .isStr [.idx (.var 0) (.int 0)]))]) [
    .ret (.bl false)] [], 
  .asg (.tup [.name 2, .name 3]) (.tup [.idx (.var 0) (.int 0), .slc (.var 0) (some (.int 1)) none]), 
  .ifS (.v (.cmp .eq (.var 2) (.str [115, 116, 97, 121]))) [
    .ret (.cmp .eq (.var 3) (.tup []))] [], 
  .ifS (.or [.v (.cmp .eq (.var 3) (.tup [])), .not (.v (.call 0 [.idx (.var 3) (.neg (.int 1)), .int 0, .bin .sub (.var 1) (.int 1)]))]) [
    .ret (.bl false)] [], 
  .ifS (.v (.cmp .eq (.var 2) (.str [103, 111]))) [
    .ret (.andE [.cmp .eq (.callB .len [.var 3]) (.int 3), .call 0 [.idx (.var 3) (.int 0), .int 0, .gcon 0], .call 0 [.idx (.var 3) (.int 1), .int 1, .gcon 1]])] [], 
  .ifS (.v (.cmp .eq (.var 2) (.str [104, 111, 108, 100]))) [
    .ret (.andE [.cmp .eq (.callB .len [.var 3]) (.int 2), .call 0 [.idx (.var 3) (.int 0), .int 1, .gcon 2]])] [], 
  .ret (.andE [.cmp .eq (.var 2) (.str [106, 117, 109, 112]), .cmp .eq (.callB .len [.var 3]) (.int 2), .call 0 [.idx (.var 3) (.int 0), .int 0, .gcon 0]])] }
def m_next_of : MDef := { np := 1, ns := 1, pur := true, body := [
  .ret (.ife (.v (.cmp .eq (.idx (.var 0) (.int 0)) (.str [115, 116, 97, 121]))) (.non) (.idx (.var 0) (.neg (.int 1))))] }
def m_ring_at : MDef := { np := 2, ns := 5, pur := true, body := [
  .forS (.name 2) (.rng [.callB .len [.var 0]]) [
    .asg (.name 1) (.call 2 [.idx (.var 0) (.var 1)]), 
    .ifS (.v (.cmp .isN (.var 1) (.non))) [
      .ret (.lst [])] []], 
  .asg (.tup [.name 3, .name 4]) (.tup [.lst [.var 1], .call 2 [.idx (.var 0) (.var 1)]]), 
  .whl (.v (.cmp .ne (.var 4) (.var 1))) [
    .asg (.tup [.name 3, .name 4]) (.tup [.bin .add (.var 3) (.lst [.var 4]), .call 2 [.idx (.var 0) (.var 4)]])], 
  .ret (.var 3)] }
def m_is_moving : MDef := { np := 2, ns := 7, pur := true, body := [
  .asg (.name 2) (.comp [4] (.idx (.idx (.var 0) (.var 4)) (.int 0)) [4] (.it (.var 1)) []), 
  .ifS (.v (.cmp .isin (.str [104, 111, 108, 100]) (.var 2))) [
    .ret (.bl true)] [], 
  .asg (.name 3) (.comp [5, 6] (.tup [.idx (.var 0) (.var 5), .idx (.var 0) (.var 6)]) [5, 6] (.zip [.var 1, .bin .add (.slc (.var 1) (some (.int 1)) none) (.slc (.var 1) none (some (.int 1)))]) []), 
  .ret (.callB .any [.comp [5, 6] (.andE [.cmp .eq (.idx (.var 6) (.int 0)) (.str [103, 111]), .cmp .ne (.idx (.var 5) (.int 1)) (.idx (.var 6) (.int 1))]) [5, 6] (.it (.var 3)) []])] }
def m_is_good : MDef := { np := 1, ns := 6, pur := true, body := [
  .ifS (.or [.not (.v (.callB .isTup [.var 0])), .v (.cmp .ne (.callB .len [.var 0]) (.int 3)), .not (.v (.callB .isTup [.idx (.var 0) (.int 2)]))]) [
    .ret (.bl false)] [], 
  .asg (.name 1) (.callB .len [.idx (.var 0) (.int 2)]), 
  .ifS (.or [.not (.v (.chain .le .le (.int 1) (.var 1) (.gcon 3))), .not (.v (.callB .all [.comp [5] (.call 1 [.var 5, .var 1]) [5] (.it (.idx (.var 0) (.int 2))) []]))]) [
    .ret (.bl false)] [], 
  .ifS (.or [.not (.v (.call 0 [.idx (.var 0) (.int 0), .int 0, .bin .sub (.var 1) (.int 1)])), .not (.v (.call 0 [.idx (.var 0) (.int 1), .int 0, .bin .sub (.var 1) (.int 1)]))]) [
    .ret (.bl false)] [], 
  .asg (.name 2) (.comp [3] (.call 3 [.idx (.var 0) (.int 2), .var 3]) [3] (.rng [.var 1]) []), 
  .ret (.callB .all [.comp [4] (.orE [.cmp .eq (.var 4) (.lst []), .call 4 [.idx (.var 0) (.int 2), .var 4]]) [4] (.it (.var 2)) []])] }
def m_is_good_row : MDef := { np := 1, ns := 4, pur := true, body := [
  .ifS (.or [.not (.v (.callB .isTup [.var 0])), .v (.cmp .ne (.callB .len [.var 0]) (.int 2)), .not (.v (.callB .isTup [.idx (.var 0) (.int 1)]))]) [
    .ret (.bl false)] [], 
  .forS (.name 1) (.it (.bin .add (.tup [.idx (.var 0) (.int 0)]) (.idx (.var 0) (.int 1)))) [
    .ifS (.or [.not (.v (.callB .isInt [.var 1])), .v (.callB .isBool [.var 1]), .v (.cmp .lt (.var 1) (.int 0))]) [
      .ret (.bl false)] []], 
  .ifS (.v (.cmp .eq (.idx (.var 0) (.int 0)) (.int 0))) [
    .ret (.bl false)] [], 
  .ret (.callB .all [.comp [2, 3] (.cmp .le (.var 2) (.var 3)) [2, 3] (.zip [.idx (.var 0) (.int 1), .slc (.idx (.var 0) (.int 1)) (some (.int 1)) none]) []])] }
def m_need_envelope : MDef := { np := 1, ns := 1, pur := true, body := [
  .ifS (.not (.v (.call 5 [.var 0]))) [
    .raise 1 [.str [110, 111, 116, 32, 97, 110, 32, 101, 110, 118, 101, 108, 111, 112, 101]]] []] }
def m_need_row : MDef := { np := 1, ns := 1, pur := true, body := [
  .ifS (.not (.v (.call 6 [.var 0]))) [
    .raise 2 [.str [110, 111, 116, 32, 97, 32, 114, 111, 119]]] []] }
def m_need_number : MDef := { np := 2, ns := 2, pur := true, body := [
  .ifS (.not (.v (.call 0 [.var 0, .int 0, .var 1]))) [
    .raise 3 [.str [110, 111, 116, 32, 97, 32, 110, 117, 109, 98, 101, 114, 32, 116, 104, 97, 116, 32, 105, 115, 32, 97, 108, 108, 111, 119, 101, 100]]] []] }
def m_lowest : MDef := { np := 2, ns := 4, pur := true, body := [
  .asg (.tup [.name 2, .name 3]) (.tup [.callB .abs [.var 0], .var 1]), 
  .whl (.v (.cmp .ne (.var 3) (.int 0))) [
    .asg (.tup [.name 2, .name 3]) (.tup [.var 3, .bin .mod (.var 2) (.var 3)])], 
  .ret (.tup [.bin .fdiv (.var 0) (.var 2), .bin .fdiv (.var 1) (.var 2)])] }
def m_plus : MDef := { np := 2, ns := 2, pur := true, body := [
  .ret (.call 10 [.bin .add (.bin .mul (.idx (.var 0) (.int 0)) (.idx (.var 1) (.int 1))) (.bin .mul (.idx (.var 1) (.int 0)) (.idx (.var 0) (.int 1))), .bin .mul (.idx (.var 0) (.int 1)) (.idx (.var 1) (.int 1))])] }
def m_times : MDef := { np := 2, ns := 2, pur := true, body := [
  .ret (.call 10 [.bin .mul (.idx (.var 0) (.int 0)) (.var 1), .idx (.var 0) (.int 1)])] }
def m_minus : MDef := { np := 2, ns := 2, pur := true, body := [
  .ret (.call 11 [.var 0, .call 12 [.var 1, .neg (.int 1)]])] }
def m_shared : MDef := { np := 2, ns := 2, pur := true, body := [
  .ret (.call 10 [.idx (.var 0) (.int 0), .bin .mul (.idx (.var 0) (.int 1)) (.var 1)])] }
def m_is_less : MDef := { np := 2, ns := 2, pur := true, body := [
  .ret (.cmp .lt (.bin .mul (.idx (.var 0) (.int 0)) (.idx (.var 1) (.int 1))) (.bin .mul (.idx (.var 1) (.int 0)) (.idx (.var 0) (.int 1))))] }
def m_whole : MDef := { np := 1, ns := 1, pur := true, body := [
  .ret (.tup [.var 0, .int 1])] }
def m_apart : MDef := { np := 2, ns := 3, pur := true, body := [
  .asg (.name 2) (.call 13 [.var 0, .var 1]), 
  .ret (.tup [.callB .abs [.idx (.var 2) (.int 0)], .idx (.var 2) (.int 1)])] }
def m_begun_phase : MDef := { np := 4, ns := 5, pur := true, body := [
  .whl (.or [.v (.cmp .eq (.idx (.idx (.var 0) (.var 2)) (.int 0)) (.str [106, 117, 109, 112])), .and [.v (.cmp .eq (.idx (.idx (.var 0) (.var 2)) (.int 0)) (.str [103, 111])), .v (.cmp .eq (.var 3) (.call 16 [.idx (.idx (.var 0) (.var 2)) (.int 1)]))]]) [
    .asg (.name 3) (.call 16 [.idx (.idx (.var 0) (.var 2)) (.int 1)]), 
    .asg (.name 2) (.call 2 [.idx (.var 0) (.var 2)])], 
  .asg (.name 4) (.ife (.v (.cmp .eq (.idx (.idx (.var 0) (.var 2)) (.int 0)) (.str [104, 111, 108, 100]))) (.call 16 [.idx (.idx (.var 0) (.var 2)) (.int 1)]) (.non)), 
  .ret (.tup [.var 1, .var 2, .var 3, .var 4])] }
def m_time_left : MDef := { np := 2, ns := 6, pur := true, body := [
  .asg (.tup [.name 2, .name 3, .name 4, .name 5]) (.var 1), 
  .ifS (.or [.v (.cmp .isN (.var 3) (.non)), .v (.cmp .eq (.idx (.idx (.var 0) (.var 3)) (.int 0)) (.str [115, 116, 97, 121]))]) [
    .ret (.non)] [], 
  .ifS (.v (.cmp .notN (.var 5) (.non))) [
    .ret (.var 5)] [], 
  .ret (.call 14 [.call 17 [.var 4, .call 16 [.idx (.idx (.var 0) (.var 3)) (.int 1)]], .idx (.idx (.var 0) (.var 3)) (.int 2)])] }
def m_moved : MDef := { np := 3, ns := 9, pur := true, body := [
  .asg (.tup [.name 4, .name 5, .name 6, .name 7]) (.var 1), 
  .asg (.name 3) (.call 13 [.var 2, .var 4]), 
  .ifS (.v (.cmp .notN (.var 7) (.non))) [
    .ret (.tup [.var 2, .var 5, .var 6, .call 13 [.var 7, .var 3]])] [], 
  .ifS (.and [.v (.cmp .notN (.var 5) (.non)), .v (.cmp .eq (.idx (.idx (.var 0) (.var 5)) (.int 0)) (.str [103, 111]))]) [
    .asg (.name 8) (.ife (.v (.call 15 [.var 6, .call 16 [.idx (.idx (.var 0) (.var 5)) (.int 1)]])) (.int 1) (.neg (.int 1))), 
    .asg (.name 6) (.call 11 [.var 6, .call 12 [.var 3, .bin .mul (.var 8) (.idx (.idx (.var 0) (.var 5)) (.int 2))]])] [], 
  .ret (.tup [.var 2, .var 5, .var 6, .var 7])] }
def m_skipped : MDef := { np := 3, ns := 7, pur := false, body := [
  .asg (.name 3) (.tup [.idx (.var 1) (.int 1), .idx (.var 1) (.int 2)]), 
  .ifS (.v (.cmp .notin (.var 3) (.var 0))) [
    .ret (.var 1)] [], 
  .asg (.name 4) (.call 13 [.idx (.var 1) (.int 0), .idx (.var 0) (.var 3)]), 
  .asg (.name 5) (.call 13 [.var 2, .idx (.var 1) (.int 0)]), 
  .asg (.name 6) (.bin .fdiv (.bin .mul (.idx (.var 5) (.int 0)) (.idx (.var 4) (.int 1))) (.bin .mul (.idx (.var 5) (.int 1)) (.idx (.var 4) (.int 0)))), 
  .ret (.bin .add (.tup [.call 11 [.idx (.var 1) (.int 0), .call 12 [.var 4, .var 6]]]) (.slc (.var 1) (some (.int 1)) none))] }
def m_state_at : MDef := { np := 3, ns := 8, pur := true, body := [
  .asg (.tup [.name 3, .name 4]) (.tup [.newT, .bl false]), 
  .whl (.v (.bl true)) [
    .asg (.name 5) (.call 19 [.var 0, .var 1]), 
    .ifS (.or [.v (.cmp .isN (.var 5) (.non)), .v (.call 15 [.var 2, .call 11 [.idx (.var 1) (.int 0), .var 5]])]) [
      .ret (.call 20 [.var 0, .var 1, .var 2])] [], 
    .asg (.name 6) (.ife (.v (.cmp .eq (.idx (.idx (.var 0) (.idx (.var 1) (.int 1))) (.int 0)) (.str [104, 111, 108, 100]))) (.idx (.var 1) (.int 2)) (.call 16 [.idx (.idx (.var 0) (.idx (.var 1) (.int 1))) (.int 1)])), 
    .asg (.name 1) (.call 18 [.var 0, .call 11 [.idx (.var 1) (.int 0), .var 5], .call 2 [.idx (.var 0) (.idx (.var 1) (.int 1))], .var 6]), 
    .ifS (.not (.v (.var 4))) [
      .asg (.name 7) (.tup [.idx (.var 1) (.int 1), .idx (.var 1) (.int 2)]), 
      .asg (.name 4) (.cmp .isin (.var 7) (.var 3)), 
      .asg (.name 1) (.call 21 [.var 3, .var 1, .var 2]), 
      .asg (.sub (.var 3) (.var 7)) (.idx (.var 1) (.int 0))] []]] }
def m_first_state : MDef := { np := 0, ns := 0, pur := true, body := [
  .ret (.tup [.call 16 [.int 0], .non, .call 16 [.int 0], .non])] }
def m_state_in : MDef := { np := 3, ns := 10, pur := true, body := [
  .asg (.tup [.name 4, .name 5, .name 6]) (.var 0), 
  .asg (.name 3) (.call 23 []), 
  .forS (.tup [.name 7, .name 8]) (.enm (.idx (.var 1) (.int 1))) [
    .ifS (.v (.cmp .le (.var 8) (.var 2))) [
      .asg (.name 9) (.call 22 [.var 6, .var 3, .call 10 [.var 8, .idx (.var 1) (.int 0)]]), 
      .asg (.name 3) (.call 18 [.var 6, .idx (.var 9) (.int 0), .ife (.v (.cmp .eq (.bin .mod (.var 7) (.int 2)) (.int 1))) (.var 5) (.var 4), .idx (.var 9) (.int 2)])] []], 
  .ret (.call 22 [.var 6, .var 3, .call 10 [.var 2, .idx (.var 1) (.int 0)]])] }
def m_need_three : MDef := { np := 3, ns := 3, pur := true, body := [
  .expr (.call 7 [.var 0]), 
  .expr (.call 8 [.var 1]), 
  .expr (.call 9 [.var 2, .gcon 4])] }
def m_level_at : MDef := { np := 3, ns := 3, pur := true, body := [
  .expr (.call 25 [.var 0, .var 1, .var 2]), 
  .ret (.idx (.call 24 [.var 0, .var 1, .var 2]) (.int 2))] }
def m_phase_at : MDef := { np := 3, ns := 3, pur := true, body := [
  .expr (.call 25 [.var 0, .var 1, .var 2]), 
  .ret (.idx (.call 24 [.var 0, .var 1, .var 2]) (.int 1))] }
def m_law_source : MDef := { np := 2, ns := 3, pur := false, body := [
  .asg (.name 2) (.int 0), 
  .ifS (.v (.cmp .lt (.var 1) (.callB .len [.var 0]))) [
    .asg (.name 2) (.callB .abs [.callB .intF [.idx (.var 0) (.var 1)]])] [], 
  .ifS (.v (.cmp .lt (.var 2) (.bin .pow (.int 10) (.int 18)))) [
    .ret (.newL [.int 0, .bin .add (.int 1) (.bin .mod (.callB .intF [.bin .add (.bin .mul (.var 2) (.int 7919)) (.bin .mul (.int 104729) (.var 1))]) (.int 2147483646))])] [], 
  .ret (.newL [.var 2, .bin .add (.int 1) (.bin .mod (.callB .intF [.bin .add (.var 2) (.var 1)]) (.int 2147483646))])] }
def m_law_draw : MDef := { np := 2, ns := 3, pur := false, body := [
  .ifS (.v (.cmp .gt (.idx (.var 0) (.int 0)) (.int 0))) [
    .asg (.name 2) (.bin .mod (.callB .intF [.idx (.var 0) (.int 0)]) (.var 1)), 
    .asg (.sub (.var 0) (.int 0)) (.bin .fdiv (.idx (.var 0) (.int 0)) (.var 1)), 
    .ret (.var 2)] [], 
  .asg (.sub (.var 0) (.int 1)) (.bin .mod (.callB .intF [.bin .mul (.idx (.var 0) (.int 1)) (.int 48271)]) (.int 2147483647)), 
  .ret (.bin .mod (.callB .intF [.bin .fdiv (.bin .mod (.callB .intF [.bin .mul (.idx (.var 0) (.int 1)) (.idx (.var 0) (.int 1))]) (.int 2147483629)) (.int 64)]) (.var 1))] }
def m_law_of : MDef := { np := 2, ns := 2, pur := false, body := [
  .ret (.idx (.var 1) (.call 29 [.var 0, .callB .len [.var 1]]))] }
def m_law_phase : MDef := { np := 2, ns := 5, pur := false, body := [
  .asg (.tup [.name 2, .name 3]) (.tup [.call 29 [.var 0, .int 9], .call 29 [.var 0, .var 1]]), 
  .ifS (.v (.cmp .lt (.var 2) (.int 5))) [
    .asg (.name 4) (.call 30 [.var 0, .lst [.int 0, .int 0, .call 29 [.var 0, .int 13], .call 29 [.var 0, .int 7]]]), 
    .ret (.tup [.str [103, 111], .var 4, .bin .add (.int 1) (.call 29 [.var 0, .int 6]), .var 3])] [], 
  .ifS (.v (.cmp .eq (.var 2) (.int 5))) [
    .ret (.tup [.str [104, 111, 108, 100], .bin .add (.int 1) (.call 29 [.var 0, .int 8]), .var 3])] [], 
  .ifS (.v (.cmp .eq (.var 2) (.int 6))) [
    .ret (.tup [.str [106, 117, 109, 112], .call 29 [.var 0, .int 13], .var 3])] [], 
  .ret (.tup [.str [115, 116, 97, 121]])] }
def m_law_ring : MDef := { np := 2, ns := 3, pur := true, body := [
  .asg (.name 2) (.newL []), 
  .whl (.and [.v (.cmp .ne (.idx (.idx (.var 0) (.var 1)) (.int 0)) (.str [115, 116, 97, 121])), .v (.cmp .notin (.var 1) (.var 2))]) [
    .expr (.append (.var 2) (.var 1)), 
    .asg (.name 1) (.idx (.idx (.var 0) (.var 1)) (.neg (.int 1)))], 
  .ret (.ife (.v (.cmp .isin (.var 1) (.var 2))) (.slc (.var 2) (some (.meth .index (.var 2) [.var 1])) none) (.lst []))] }
def m_law_is_moving : MDef := { np := 2, ns := 5, pur := true, body := [
  .forS (.name 2) (.rng [.callB .len [.var 1]]) [
    .asg (.name 3) (.idx (.var 0) (.idx (.var 1) (.var 2))), 
    .asg (.name 4) (.idx (.var 0) (.idx (.var 1) (.bin .sub (.var 2) (.int 1)))), 
    .ifS (.v (.cmp .eq (.idx (.var 3) (.int 0)) (.str [104, 111, 108, 100]))) [
      .ret (.bl true)] [], 
    .ifS (.and [.v (.cmp .eq (.idx (.var 3) (.int 0)) (.str [103, 111])), .v (.cmp .isin (.idx (.var 4) (.int 0)) (.tup [.str [103, 111], .str [106, 117, 109, 112]])), .v (.cmp .ne (.idx (.var 4) (.int 1)) (.idx (.var 3) (.int 1)))]) [
      .ret (.bl true)] []], 
  .ret (.bl false)] }
def m_law_is_good : MDef := { np := 1, ns := 3, pur := true, body := [
  .forS (.name 1) (.rng [.callB .len [.idx (.var 0) (.int 2)]]) [
    .asg (.name 2) (.call 32 [.idx (.var 0) (.int 2), .var 1]), 
    .ifS (.and [.v (.cmp .ne (.var 2) (.lst [])), .not (.v (.call 33 [.idx (.var 0) (.int 2), .var 2]))]) [
      .ret (.bl false)] []], 
  .ret (.bl true)] }
def m_law_known : MDef := { np := 1, ns := 9, pur := false, body := [
  .asg (.tup [.name 3, .name 4]) (.tup [.bin .add (.int 1) (.call 29 [.var 0, .int 12]), .call 29 [.var 0, .int 7]]), 
  .asg (.tup [.name 5, .name 6]) (.tup [.bin .add (.int 1) (.call 29 [.var 0, .int 6]), .bin .add (.int 1) (.call 29 [.var 0, .int 6])]), 
  .asg (.name 1) (.bin .add (.int 1) (.call 29 [.var 0, .int 6])), 
  .asg (.tup [.name 7, .name 8]) (.tup [.tup [.str [103, 111], .var 3, .var 5, .int 1], .tup [.str [104, 111, 108, 100], .bin .add (.int 1) (.call 29 [.var 0, .int 8]), .int 2]]), 
  .asg (.name 2) (.newL [.tup [.int 0, .int 2, .tup [.var 7, .tup [.str [115, 116, 97, 121]], .tup [.str [103, 111], .int 0, .var 1, .int 1]]]]), 
  .expr (.append (.var 2) (.tup [.int 0, .int 3, .tup [.var 7, .tup [.str [103, 111], .var 4, .var 6, .int 2], .tup [.str [115, 116, 97, 121]], .tup [.str [103, 111], .int 0, .var 1, .int 2]]])), 
  .expr (.append (.var 2) (.tup [.int 0, .int 3, .tup [.tup [.str [106, 117, 109, 112], .int 0, .int 1], .tup [.str [103, 111], .var 3, .var 5, .int 2], .tup [.str [115, 116, 97, 121]], .tup [.str [103, 111], .int 0, .var 1, .int 2]]])), 
  .expr (.append (.var 2) (.tup [.int 0, .int 3, .tup [.var 7, .var 8, .tup [.str [103, 111], .int 0, .var 6, .int 4], .tup [.str [103, 111], .int 0, .var 1, .int 4], .tup [.str [115, 116, 97, 121]]]])), 
  .expr (.append (.var 2) (.tup [.int 0, .int 2, .tup [.tup [.str [106, 117, 109, 112], .var 3, .int 1], .tup [.str [115, 116, 97, 121]], .tup [.str [104, 111, 108, 100], .idx (.var 8) (.int 1), .int 3], .tup [.str [103, 111], .int 0, .var 1, .int 1]]])), 
  .ifS (.v (.cmp .ne (.var 4) (.var 3))) [
    .expr (.append (.var 2) (.tup [.int 0, .int 2, .tup [.var 7, .tup [.str [103, 111], .var 4, .var 6, .int 0], .tup [.str [103, 111], .int 0, .var 1, .int 3], .tup [.str [115, 116, 97, 121]]]]))] [], 
  .ret (.call 30 [.var 0, .var 2])] }
def m_law_bent : MDef := { np := 2, ns := 10, pur := false, body := [
  .asg (.tup [.name 4, .name 5, .name 6]) (.var 1), 
  .asg (.tup [.name 7, .name 8]) (.tup [.call 29 [.var 0, .callB .len [.var 6]], .call 29 [.var 0, .int 4]]), 
  .asg (.name 2) (.call 31 [.var 0, .callB .len [.var 6]]), 
  .asg (.name 3) (.tup [.var 4, .var 5, .bin .add (.bin .add (.slc (.var 6) none (some (.var 7))) (.tup [.var 2])) (.slc (.var 6) (some (.bin .add (.var 7) (.int 1))) none)]), 
  .ifS (.and [.v (.cmp .eq (.var 8) (.int 1)), .v (.cmp .ne (.idx (.idx (.var 6) (.var 7)) (.int 0)) (.str [115, 116, 97, 121]))]) [
    .asg (.name 9) (.bin .add (.slc (.idx (.var 6) (.var 7)) none (some (.neg (.int 1)))) (.tup [.call 29 [.var 0, .callB .len [.var 6]]])), 
    .asg (.name 3) (.tup [.var 4, .var 5, .bin .add (.bin .add (.slc (.var 6) none (some (.var 7))) (.tup [.var 9])) (.slc (.var 6) (some (.bin .add (.var 7) (.int 1))) none)])] [], 
  .ifS (.v (.cmp .eq (.var 8) (.int 2))) [
    .asg (.name 3) (.tup [.var 4, .var 7, .var 6])] [], 
  .ifS (.and [.v (.cmp .eq (.var 8) (.int 3)), .v (.cmp .eq (.idx (.idx (.var 6) (.var 7)) (.int 0)) (.str [103, 111]))]) [
    .asg (.name 2) (.tup [.str [103, 111], .idx (.idx (.var 6) (.var 7)) (.int 1), .bin .add (.int 1) (.call 29 [.var 0, .int 6]), .idx (.idx (.var 6) (.var 7)) (.int 3)]), 
    .asg (.name 3) (.tup [.var 4, .var 5, .bin .add (.bin .add (.slc (.var 6) none (some (.var 7))) (.tup [.var 2])) (.slc (.var 6) (some (.bin .add (.var 7) (.int 1))) none)])] [], 
  .ret (.ife (.v (.call 34 [.var 3])) (.var 3) (.var 1))] }
def m_law_any : MDef := { np := 1, ns := 5, pur := false, body := [
  .asg (.name 1) (.bin .add (.int 1) (.call 29 [.var 0, .int 6])), 
  .asg (.name 2) (.callB .tupF [.comp [4] (.call 31 [.var 0, .var 1]) [4] (.rng [.var 1]) []]), 
  .asg (.name 3) (.tup [.call 29 [.var 0, .var 1], .call 29 [.var 0, .var 1], .var 2]), 
  .ret (.ife (.v (.call 34 [.var 3])) (.var 3) (.tup [.int 0, .int 0, .tup [.tup [.str [115, 116, 97, 121]]]]))] }
def m_law_envelope : MDef := { np := 1, ns := 4, pur := false, body := [
  .asg (.name 1) (.call 29 [.var 0, .int 5]), 
  .ifS (.v (.cmp .eq (.var 1) (.int 4))) [
    .ret (.call 37 [.var 0])] [], 
  .asg (.name 2) (.call 35 [.var 0]), 
  .forS (.name 3) (.rng [.callB .max2 [.int 0, .bin .sub (.var 1) (.int 1)]]) [
    .asg (.name 2) (.call 36 [.var 0, .var 2])], 
  .ret (.var 2)] }
def m_law_row : MDef := { np := 3, ns := 8, pur := false, body := [
  .asg (.tup [.name 4, .name 5, .name 6]) (.tup [.call 30 [.var 0, .lst [.int 1, .int 2, .int 3, .int 7, .int 12, .int 1000]], .int 0, .tup []]), 
  .forS (.name 3) (.rng [.call 29 [.var 0, .bin .add (.var 1) (.int 1)]]) [
    .asg (.name 7) (.lst [.int 0, .var 4, .call 29 [.var 0, .bin .add (.bin .mul (.var 4) (.var 2)) (.int 1)], .call 29 [.var 0, .bin .mul (.int 3) (.var 4)]]), 
    .asg (.name 5) (.bin .add (.var 5) (.call 30 [.var 0, .var 7])), 
    .asg (.name 6) (.bin .add (.var 6) (.tup [.var 5]))], 
  .ret (.tup [.var 4, .var 6])] }
def m_law_low : MDef := { np := 2, ns := 4, pur := true, body := [
  .asg (.tup [.name 2, .name 3]) (.tup [.callB .abs [.var 0], .var 1]), 
  .whl (.v (.cmp .gt (.var 3) (.int 0))) [
    .asg (.tup [.name 2, .name 3]) (.tup [.var 3, .bin .mod (.var 2) (.var 3)])], 
  .ret (.tup [.bin .fdiv (.var 0) (.var 2), .bin .fdiv (.var 1) (.var 2)])] }
def m_law_sum : MDef := { np := 3, ns := 3, pur := true, body := [
  .ret (.call 40 [.bin .add (.bin .mul (.idx (.var 0) (.int 0)) (.idx (.var 1) (.int 1))) (.bin .mul (.bin .mul (.var 2) (.idx (.var 1) (.int 0))) (.idx (.var 0) (.int 1))), .bin .mul (.idx (.var 0) (.int 1)) (.idx (.var 1) (.int 1))])] }
def m_law_begin : MDef := { np := 4, ns := 7, pur := true, body := [
  .whl (.or [.v (.cmp .eq (.idx (.idx (.var 0) (.var 1)) (.int 0)) (.str [106, 117, 109, 112])), .and [.v (.cmp .eq (.idx (.idx (.var 0) (.var 1)) (.int 0)) (.str [103, 111])), .v (.cmp .eq (.var 2) (.tup [.idx (.idx (.var 0) (.var 1)) (.int 1), .int 1]))]]) [
    .asg (.tup [.name 2, .name 1]) (.tup [.tup [.idx (.idx (.var 0) (.var 1)) (.int 1), .int 1], .idx (.idx (.var 0) (.var 1)) (.neg (.int 1))])], 
  .asg (.tup [.name 4, .name 5]) (.tup [.non, .idx (.var 0) (.var 1)]), 
  .ifS (.v (.cmp .eq (.idx (.var 5) (.int 0)) (.str [104, 111, 108, 100]))) [
    .asg (.name 4) (.call 41 [.var 3, .tup [.idx (.var 5) (.int 1), .int 1], .int 1])] [], 
  .ifS (.v (.cmp .eq (.idx (.var 5) (.int 0)) (.str [103, 111]))) [
    .asg (.name 6) (.call 41 [.var 2, .tup [.idx (.var 5) (.int 1), .int 1], .neg (.int 1)]), 
    .asg (.name 4) (.call 41 [.var 3, .call 40 [.callB .abs [.idx (.var 6) (.int 0)], .bin .mul (.idx (.var 6) (.int 1)) (.idx (.var 5) (.int 2))], .int 1])] [], 
  .ret (.dispS [[112, 104, 97, 115, 101], [108, 101, 118, 101, 108], [99, 108, 111, 99, 107], [101, 110, 100]] [.var 1, .var 2, .var 3, .var 4])] }
def m_law_led : MDef := { np := 3, ns := 7, pur := true, body := [
  .whl (.and [.v (.cmp .notN (.idx (.var 1) (.str [101, 110, 100])) (.non)), .v (.cmp .le (.bin .mul (.idx (.idx (.var 1) (.str [101, 110, 100])) (.int 0)) (.idx (.var 2) (.int 1))) (.bin .mul (.idx (.var 2) (.int 0)) (.idx (.idx (.var 1) (.str [101, 110, 100])) (.int 1))))]) [
    .asg (.name 3) (.idx (.var 0) (.idx (.var 1) (.str [112, 104, 97, 115, 101]))), 
    .asg (.name 4) (.ife (.v (.cmp .eq (.idx (.var 3) (.int 0)) (.str [104, 111, 108, 100]))) (.idx (.var 1) (.str [108, 101, 118, 101, 108])) (.tup [.idx (.var 3) (.int 1), .int 1])), 
    .asg (.name 1) (.call 42 [.var 0, .idx (.var 3) (.neg (.int 1)), .var 4, .idx (.var 1) (.str [101, 110, 100])])], 
  .ifS (.and [.v (.cmp .notN (.idx (.var 1) (.str [112, 104, 97, 115, 101])) (.non)), .v (.cmp .eq (.idx (.idx (.var 0) (.idx (.var 1) (.str [112, 104, 97, 115, 101]))) (.int 0)) (.str [103, 111]))]) [
    .asg (.tup [.name 3, .name 1]) (.tup [.idx (.var 0) (.idx (.var 1) (.str [112, 104, 97, 115, 101])), .copyS (.var 1)]), 
    .asg (.name 5) (.ife (.v (.cmp .lt (.idx (.idx (.var 1) (.str [108, 101, 118, 101, 108])) (.int 0)) (.bin .mul (.idx (.var 3) (.int 1)) (.idx (.idx (.var 1) (.str [108, 101, 118, 101, 108])) (.int 1))))) (.int 1) (.neg (.int 1))), 
    .asg (.name 6) (.call 41 [.var 2, .idx (.var 1) (.str [99, 108, 111, 99, 107]), .neg (.int 1)]), 
    .asg (.tup [.sub (.var 1) (.str [108, 101, 118, 101, 108]), .sub (.var 1) (.str [99, 108, 111, 99, 107])]) (.tup [.call 41 [.idx (.var 1) (.str [108, 101, 118, 101, 108]), .var 6, .bin .mul (.var 5) (.idx (.var 3) (.int 2))], .var 2])] [], 
  .ret (.frz (.var 1))] }
def m_law_at : MDef := { np := 3, ns := 6, pur := true, body := [
  .asg (.name 3) (.dispS [[112, 104, 97, 115, 101], [108, 101, 118, 101, 108], [99, 108, 111, 99, 107], [101, 110, 100]] [.non, .tup [.int 0, .int 1], .tup [.int 0, .int 1], .non]), 
  .forS (.name 4) (.rng [.callB .len [.idx (.var 1) (.int 1)]]) [
    .ifS (.v (.cmp .le (.idx (.idx (.var 1) (.int 1)) (.var 4)) (.var 2))) [
      .asg (.name 5) (.call 40 [.idx (.idx (.var 1) (.int 1)) (.var 4), .idx (.var 1) (.int 0)]), 
      .asg (.name 3) (.call 43 [.idx (.var 0) (.int 2), .var 3, .var 5]), 
      .asg (.name 3) (.call 42 [.idx (.var 0) (.int 2), .idx (.var 0) (.bin .mod (.var 4) (.int 2)), .idx (.var 3) (.str [108, 101, 118, 101, 108]), .var 5])] []], 
  .ret (.call 43 [.idx (.var 0) (.int 2), .var 3, .call 40 [.var 2, .idx (.var 1) (.int 0)]])] }
def m_law : MDef := { np := 1, ns := 12, pur := false, body := [
  .forS (.name 1) (.rng [.bin .add (.int 1) (.callB .min2 [.callB .len [.var 0], .int 10])]) [
    .asg (.name 4) (.call 28 [.var 0, .var 1]), 
    .forS (.name 5) (.rng [.int 3]) [
      .asg (.name 6) (.call 38 [.var 4]), 
      .forS (.name 7) (.rng [.int 4]) [
        .asg (.name 8) (.call 39 [.var 4, .int 8, .int 6]), 
        .asg (.name 9) (.bin .add (.ife (.v (.cmp .ne (.idx (.var 8) (.int 1)) (.tup []))) (.idx (.idx (.var 8) (.int 1)) (.neg (.int 1))) (.int 0)) (.bin .mul (.int 12) (.idx (.var 8) (.int 0)))), 
        .forS (.name 10) (.it (.lst [.call 29 [.var 4, .bin .add (.var 9) (.int 1)], .call 29 [.var 4, .bin .add (.var 9) (.int 1)], .var 9])) [
          .asg (.name 11) (.call 44 [.var 6, .var 8, .var 10]), 
          .ifS (.or [.v (.cmp .ne (.call 26 [.var 6, .var 8, .var 10]) (.idx (.var 11) (.str [108, 101, 118, 101, 108]))), .v (.cmp .ne (.call 27 [.var 6, .var 8, .var 10]) (.idx (.var 11) (.str [112, 104, 97, 115, 101])))]) [
            .ret (.bl false)] []], 
        .forS (.name 10) (.it (.slc (.idx (.var 8) (.int 1)) none (some (.int 3)))) [
          .ifS (.v (.cmp .ne (.call 26 [.var 6, .var 8, .var 10]) (.idx (.call 44 [.var 6, .var 8, .var 10]) (.str [108, 101, 118, 101, 108])))) [
            .ret (.bl false)] []]]]], 
  .asg (.name 2) (.tup [.int 0, .int 2, .tup [.tup [.str [103, 111], .int 9, .int 3, .int 1], .tup [.str [103, 111], .int 3, .int 3, .int 0], .tup [.str [104, 111, 108, 100], .int 2, .int 3], .tup [.str [103, 111], .int 0, .int 3, .int 4], .tup [.str [115, 116, 97, 121]]]]), 
  .ifS (.or [.v (.cmp .ne (.call 26 [.var 2, .tup [.int 1, .tup [.int 0]], .bin .pow (.int 10) (.int 30)]) (.tup [.int 6, .int 1])), .v (.cmp .ne (.call 26 [.var 2, .tup [.int 1, .tup [.int 0]], .bin .sub (.bin .pow (.int 10) (.int 30)) (.int 1)]) (.tup [.int 9, .int 1]))]) [
    .ret (.bl false)] [], 
  .asg (.name 3) (.tup [.int 0, .int 1, .tup [.tup [.str [103, 111], .int 10, .int 3, .int 2], .tup [.str [103, 111], .int 0, .int 6, .int 2], .tup [.str [115, 116, 97, 121]]]]), 
  .ifS (.v (.cmp .ne (.call 26 [.var 3, .tup [.int 7, .tup [.int 0, .int 10, .int 11]], .int 12]) (.tup [.int 27, .int 7]))) [
    .ret (.bl false)] [], 
  .ret (.andE [.cmp .eq (.call 26 [.var 3, .tup [.int 7, .tup [.int 0, .int 10, .int 11]], .bin .pow (.int 10) (.int 30)]) (.tup [.int 10, .int 1]), .cmp .eq (.call 27 [.var 3, .tup [.int 7, .tup [.int 0, .int 10, .int 11]], .int 10]) (.int 1)])] }
def mdefs : List MDef := [m_is_number, m_is_good_phase, m_next_of, m_ring_at, m_is_moving, m_is_good, m_is_good_row, m_need_envelope, m_need_row, m_need_number, m_lowest, m_plus, m_times, m_minus, m_shared, m_is_less, m_whole, m_apart, m_begun_phase, m_time_left, m_moved, m_skipped, m_state_at, m_first_state, m_state_in, m_need_three, m_level_at, m_phase_at, m_law_source, m_law_draw, m_law_of, m_law_phase, m_law_ring, m_law_is_moving, m_law_is_good, m_law_known, m_law_bent, m_law_any, m_law_envelope, m_law_row, m_law_low, m_law_sum, m_law_begin, m_law_led, m_law_at, m_law]
def cons : List D := [.int 12, .int 6, .int 8, .int 6, .int 1000000000000000000000000000000]
def G : GCon := fun j => cons[j]?
def T : Nat → Option MDef := fun j => mdefs[j]?
abbrev i_is_number : Nat := 0
abbrev i_is_good_phase : Nat := 1
abbrev i_next_of : Nat := 2
abbrev i_ring_at : Nat := 3
abbrev i_is_moving : Nat := 4
abbrev i_is_good : Nat := 5
abbrev i_is_good_row : Nat := 6
abbrev i_need_envelope : Nat := 7
abbrev i_need_row : Nat := 8
abbrev i_need_number : Nat := 9
abbrev i_lowest : Nat := 10
abbrev i_plus : Nat := 11
abbrev i_times : Nat := 12
abbrev i_minus : Nat := 13
abbrev i_shared : Nat := 14
abbrev i_is_less : Nat := 15
abbrev i_whole : Nat := 16
abbrev i_apart : Nat := 17
abbrev i_begun_phase : Nat := 18
abbrev i_time_left : Nat := 19
abbrev i_moved : Nat := 20
abbrev i_skipped : Nat := 21
abbrev i_state_at : Nat := 22
abbrev i_first_state : Nat := 23
abbrev i_state_in : Nat := 24
abbrev i_need_three : Nat := 25
abbrev i_level_at : Nat := 26
abbrev i_phase_at : Nat := 27
abbrev i_law_source : Nat := 28
abbrev i_law_draw : Nat := 29
abbrev i_law_of : Nat := 30
abbrev i_law_phase : Nat := 31
abbrev i_law_ring : Nat := 32
abbrev i_law_is_moving : Nat := 33
abbrev i_law_is_good : Nat := 34
abbrev i_law_known : Nat := 35
abbrev i_law_bent : Nat := 36
abbrev i_law_any : Nat := 37
abbrev i_law_envelope : Nat := 38
abbrev i_law_row : Nat := 39
abbrev i_law_low : Nat := 40
abbrev i_law_sum : Nat := 41
abbrev i_law_begin : Nat := 42
abbrev i_law_led : Nat := 43
abbrev i_law_at : Nat := 44
abbrev i_law : Nat := 45
end K02
end
section
set_option linter.all false
set_option maxRecDepth 100000
set_option autoImplicit false
/-! KLEv: how terms of the small language run, as rules for simp. -/
namespace KL
/-- an equation that simp is not to take for one by definition -/
theorem nr {α : Sort _} {a b : α} (h : a = b) : a = b := h
section
variable {G : GCon} {C : CallF} {ρ : Env} {S : Store}
@[simp] theorem bnd_okS {α β : Type} (a : α) (S : Store) (f : α → Store → Out β) : bnd (some (.ok a S)) f = f a S := nr rfl
@[simp] theorem bnd_excS {α β : Type} (c : Nat) (p : List D) (S : Store) (f : α → Store → Out β) : bnd (some (.exc c p S)) f = some (.exc c p S) := nr rfl
@[simp] theorem bnd_noneS {α β : Type} (f : α → Store → Out β) : bnd none f = none := nr rfl
@[simp] theorem bndS_okS {α : Type} (a : α) (S : Store) (f : α → Store → Option SR) : bndS ρ (some (.ok a S)) f = f a S := nr rfl
@[simp] theorem bndS_noneS {α : Type} (f : α → Store → Option SR) : bndS ρ none f = none := nr rfl
@[simp] theorem ok_def {α : Type} (a : α) (S : Store) : ok a S = some (.ok a S) := nr rfl
@[simp] theorem lift_some {α : Type} (a : α) (S : Store) : lift (some a) S = some (.ok a S) := nr rfl
@[simp] theorem lift_none {α : Type} (S : Store) : lift (none : Option α) S = none := nr rfl
@[simp] theorem noexc_okS {α : Type} (a : α) (S : Store) : noexc (some (.ok a S)) = some (.ok a S) := nr rfl
@[simp] theorem evalE_var (i : Nat) : evalE G C (.var i) ρ S = match ρ[i]? with
  | some (some d) => ok d S
  | _ => none := nr rfl
@[simp] theorem evalE_gcon (g : Nat) : evalE G C (.gcon g) ρ S = lift (G g) S := nr rfl
@[simp] theorem evalE_int (i : Int) : evalE G C (.int i) ρ S = some (.ok (.int i) S) := nr rfl
@[simp] theorem evalE_bl (i : Bool) : evalE G C (.bl i) ρ S = some (.ok (.bl i) S) := nr rfl
@[simp] theorem evalE_non : evalE G C .non ρ S = some (.ok .non S) := nr rfl
@[simp] theorem evalE_str (i : Txt) : evalE G C (.str i) ρ S = some (.ok (.str i) S) := nr rfl
@[simp] theorem evalE_tup (es : List ME) : evalE G C (.tup es) ρ S = bnd (evalEs G C es ρ S) fun ds S => ok (.tup ds) S := nr rfl
@[simp] theorem evalE_lst (es : List ME) : evalE G C (.lst es) ρ S = bnd (evalEs G C es ρ S) fun ds S => ok (.lst ds) S := nr rfl
@[simp] theorem evalE_newL (es : List ME) : evalE G C (.newL es) ρ S = bnd (evalEs G C es ρ S) fun ds S => ok (.ref S.length) (S ++ [.lst ds]) := nr rfl
@[simp] theorem evalE_newT : evalE G C .newT ρ S = some (.ok (.ref S.length) (S ++ [.dT [] []])) := nr rfl
@[simp] theorem evalE_newS (ks : List Txt) (es : List ME) : evalE G C (.newS ks es) ρ S = bnd (evalEs G C es ρ S) fun ds S => if ds.length = ks.length then ok (.ref S.length) (S ++ [.dS (keysTxt ks ds).1 (keysTxt ks ds).2]) else none := nr rfl
@[simp] theorem evalE_dispS (ks : List Txt) (es : List ME) : evalE G C (.dispS ks es) ρ S = bnd (evalEs G C es ρ S) fun ds S => if ds.length = ks.length then ok (.dS (keysTxt ks ds).1 (keysTxt ks ds).2) S else none := nr rfl
@[simp] theorem evalE_bin (op : BO) (a b : ME) : evalE G C (.bin op a b) ρ S = bnd (evalE G C a ρ S) fun x S => bnd (evalE G C b ρ S) fun y S => lift (binD op x y S) S := nr rfl
@[simp] theorem evalE_neg (a : ME) : evalE G C (.neg a) ρ S = bnd (evalE G C a ρ S) fun x S => match x with
    | .int i => ok (.int (-i)) S
    | _ => none := nr rfl
@[simp] theorem evalE_notE (a : ME) : evalE G C (.notE a) ρ S = bnd (evalE G C a ρ S) fun x S => match x with
    | .bl b => ok (.bl (!b)) S
    | _ => none := nr rfl
@[simp] theorem evalE_cmp (op : CO) (a b : ME) : evalE G C (.cmp op a b) ρ S = bnd (evalE G C a ρ S) fun x S => bnd (evalE G C b ρ S) fun y S => match cmpD op x y S with
    | some r => ok (.bl r) S
    | none => none := nr rfl
@[simp] theorem evalE_chain (op op' : CO) (a b c : ME) : evalE G C (.chain op op' a b c) ρ S = bnd (evalE G C a ρ S) fun x S => bnd (evalE G C b ρ S) fun y S => match cmpD op x y S with
    | some true => bnd (evalE G C c ρ S) fun z S => match cmpD op' y z S with
      | some r => ok (.bl r) S
      | none => none
    | some false => ok (.bl false) S
    | none => none := nr rfl
@[simp] theorem evalE_and (es : List ME) : evalE G C (.andE es) ρ S = evalAnd G C es ρ S := nr rfl
@[simp] theorem evalE_or (es : List ME) : evalE G C (.orE es) ρ S = evalOr G C es ρ S := nr rfl
@[simp] theorem evalE_ife (c : MQ) (a b : ME) : evalE G C (.ife c a b) ρ S = bnd (evalT G C c ρ S) fun t S => if t then evalE G C a ρ S else evalE G C b ρ S := nr rfl
@[simp] theorem evalE_idx (a b : ME) : evalE G C (.idx a b) ρ S = bnd (evalE G C a ρ S) fun x S => bnd (evalE G C b ρ S) fun y S => lift (idxD x y S) S := nr rfl
@[simp] theorem evalE_slc (a : ME) (lo hi : Option ME) : evalE G C (.slc a lo hi) ρ S = bnd (evalE G C a ρ S) fun x S => bnd (evalO G C lo ρ S) fun l S => bnd (evalO G C hi ρ S) fun h S => lift (cutD x l h S) S := nr rfl
@[simp] theorem evalE_call (f : Nat) (es : List ME) : evalE G C (.call f es) ρ S = bnd (evalEs G C es ρ S) fun ds S => C f ds S := nr rfl
@[simp] theorem evalE_callB (f : BF) (es : List ME) : evalE G C (.callB f es) ρ S = bnd (evalEs G C es ρ S) fun ds S => lift (bfD f ds S) S := nr rfl
@[simp] theorem evalE_meth (f : MF) (o : ME) (es : List ME) : evalE G C (.meth f o es) ρ S = bnd (evalE G C o ρ S) fun x S => if mfOk f x S then bnd (evalEs G C es ρ S) fun ds S => lift (mfD f x ds S) S else none := nr rfl
@[simp] theorem evalE_sortSet (e : ME) : evalE G C (.sortSet e) ρ S = bnd (evalE G C e ρ S) fun d S => lift (bfD .sortSet [d] S) S := nr rfl
@[simp] theorem evalE_copyS (e : ME) : evalE G C (.copyS e) ρ S = bnd (evalE G C e ρ S) fun d S => match view S d with
    | .dS ks vs => if nodupT ks then ok (.ref S.length) (S ++ [.dS ks vs]) else none
    | _ => none := nr rfl
@[simp] theorem evalE_append (o e : ME) : evalE G C (.append o e) ρ S = bnd (evalE G C o ρ S) fun x S => if isLstRef x S then bnd (evalE G C e ρ S) fun y S => appD x y S else none := nr rfl
@[simp] theorem evalE_pop (o : ME) : evalE G C (.pop o) ρ S = bnd (evalE G C o ρ S) fun x S => popD x S := nr rfl
@[simp] theorem evalE_frz (e : ME) : evalE G C (.frz e) ρ S = bnd (evalE G C e ρ S) fun x S => frzD x S := nr rfl
@[simp] theorem evalE_comp (own : List Nat) (elt : ME) (tg : List Nat) (it : MI) (ifs : List MQ) : evalE G C (.comp own elt tg it ifs) ρ S = bnd (evalI G C it ρ S) fun xs S =>
      bnd (compL tg (fun ρ S => evalTs G C ifs ρ S) (fun ρ S => evalE G C elt ρ S) (wipeE ρ own) xs S) fun ds S => if ds.length ≤ lineN then ok (.lst ds) S else none := nr rfl
@[simp] theorem evalEs_nil : evalEs G C [] ρ S = some (.ok [] S) := nr rfl
@[simp] theorem evalEs_cons (e : ME) (es : List ME) : evalEs G C (e :: es) ρ S = bnd (evalE G C e ρ S) fun d S => bnd (evalEs G C es ρ S) fun ds S => ok (d :: ds) S := nr rfl
@[simp] theorem evalO_none : evalO G C none ρ S = some (.ok none S) := nr rfl
@[simp] theorem evalO_some (e : ME) : evalO G C (some e) ρ S = bnd (evalE G C e ρ S) fun d S => match d with
    | .int i => ok (some i) S
    | _ => none := nr rfl
@[simp] theorem evalAnd_one (e : ME) : evalAnd G C [e] ρ S = evalE G C e ρ S := nr rfl
@[simp] theorem evalAnd_cons (e e2 : ME) (es : List ME) : evalAnd G C (e :: e2 :: es) ρ S = bnd (evalE G C e ρ S) fun d S => match d with
    | .bl true => evalAnd G C (e2 :: es) ρ S
    | .bl false => ok (.bl false) S
    | _ => none := nr rfl
@[simp] theorem evalOr_one (e : ME) : evalOr G C [e] ρ S = evalE G C e ρ S := nr rfl
@[simp] theorem evalOr_cons (e e2 : ME) (es : List ME) : evalOr G C (e :: e2 :: es) ρ S = bnd (evalE G C e ρ S) fun d S => match d with
    | .bl true => ok (.bl true) S
    | .bl false => evalOr G C (e2 :: es) ρ S
    | _ => none := nr rfl
@[simp] theorem evalT_v (e : ME) : evalT G C (.v e) ρ S = bnd (evalE G C e ρ S) fun d S => lift (truD d S) S := nr rfl
@[simp] theorem evalT_and (qs : List MQ) : evalT G C (.and qs) ρ S = evalTs G C qs ρ S := nr rfl
@[simp] theorem evalT_or (qs : List MQ) : evalT G C (.or qs) ρ S = evalTo G C qs ρ S := nr rfl
@[simp] theorem evalT_not (q : MQ) : evalT G C (.not q) ρ S = bnd (evalT G C q ρ S) fun b S => ok (!b) S := nr rfl
@[simp] theorem evalTs_nil : evalTs G C [] ρ S = some (.ok true S) := nr rfl
@[simp] theorem evalTs_cons (q : MQ) (qs : List MQ) : evalTs G C (q :: qs) ρ S = bnd (evalT G C q ρ S) fun b S => if b then evalTs G C qs ρ S else ok false S := nr rfl
@[simp] theorem evalTo_nil : evalTo G C [] ρ S = some (.ok false S) := nr rfl
@[simp] theorem evalTo_cons (q : MQ) (qs : List MQ) : evalTo G C (q :: qs) ρ S = bnd (evalT G C q ρ S) fun b S => if b then ok true S else evalTo G C qs ρ S := nr rfl
@[simp] theorem evalI_it (e : ME) : evalI G C (.it e) ρ S = bnd (evalE G C e ρ S) fun d S => lift (walkD S d) S := nr rfl
@[simp] theorem evalI_rng (es : List ME) : evalI G C (.rng es) ρ S = bnd (evalEs G C es ρ S) fun ds S => match rngD ds with
    | some (i, c, n) => ok (rangeL i c n) S
    | none => none := nr rfl
@[simp] theorem evalI_zip (es : List ME) : evalI G C (.zip es) ρ S = bnd (evalEs G C es ρ S) fun ds S => lift (zipD S ds) S := nr rfl
@[simp] theorem evalI_enm (e : ME) : evalI G C (.enm e) ρ S = bnd (evalE G C e ρ S) fun d S => match d with
    | .tup xs => ok (enumL 0 xs) S
    | _ => none := nr rfl
@[simp] theorem asgT_name (i : Nat) (d : D) : asgT G C (.name i) d ρ S = some (.nx (ρ.set i (some d)) S) := nr rfl
@[simp] theorem asgT_tup (ts : List MT) (ds : List D) : asgT G C (.tup ts) (.tup ds) ρ S = asgTs G C ts ds ρ S := nr rfl
@[simp] theorem asgT_sub (o k : ME) (d : D) : asgT G C (.sub o k) d ρ S = bndS ρ (evalE G C o ρ S) fun x S => bndS ρ (evalE G C k ρ S) fun y S => match setItemD x y d S with
    | some S' => some (.nx ρ S')
    | none => none := nr rfl
@[simp] theorem asgTs_nil : asgTs G C [] [] ρ S = some (.nx ρ S) := nr rfl
@[simp] theorem asgTs_cons (t : MT) (ts : List MT) (d : D) (ds : List D) : asgTs G C (t :: ts) (d :: ds) ρ S = match asgT G C t d ρ S with
    | some (.nx ρ' S') => asgTs G C ts ds ρ' S'
    | r => r := nr rfl
@[simp] theorem exec_asg (t : MT) (e : ME) : exec G C (.asg t e) ρ S = bndS ρ (evalE G C e ρ S) fun d S => asgT G C t d ρ S := nr rfl
@[simp] theorem exec_expr (e : ME) : exec G C (.expr e) ρ S = bndS ρ (evalE G C e ρ S) fun _ S => some (.nx ρ S) := nr rfl
@[simp] theorem exec_if (c : MQ) (a b : List MS) : exec G C (.ifS c a b) ρ S = bndS ρ (evalT G C c ρ S) fun t S => if t then execs G C a ρ S else execs G C b ρ S := nr rfl
theorem exec_whl (c : MQ) (b : List MS) : exec G C (.whl c b) ρ S = loopW (fun ρ S => evalT G C c ρ S) (fun ρ S => execs G C b ρ S) bigN ρ S := nr rfl
theorem exec_for (t : MT) (it : MI) (b : List MS) : exec G C (.forS t it b) ρ S = bndS ρ (evalI G C it ρ S) fun xs S => loopF (fun d ρ S => asgT G C t d ρ S) (fun ρ S => execs G C b ρ S) xs ρ S := nr rfl
@[simp] theorem exec_ret (e : ME) : exec G C (.ret e) ρ S = bndS ρ (evalE G C e ρ S) fun d S => some (.ret d S) := nr rfl
@[simp] theorem exec_retN : exec G C .retN ρ S = some (.ret .non S) := nr rfl
@[simp] theorem exec_pass : exec G C .pass ρ S = some (.nx ρ S) := nr rfl
@[simp] theorem exec_brk : exec G C .brk ρ S = some (.brk ρ S) := nr rfl
@[simp] theorem exec_cont : exec G C .cont ρ S = some (.ct ρ S) := nr rfl
@[simp] theorem exec_raise (c : Nat) (es : List ME) : exec G C (.raise c es) ρ S = bndS ρ (evalEs G C es ρ S) fun ds S => some (.exc c ds ρ S) := nr rfl
@[simp] theorem execs_nil : execs G C [] ρ S = some (.nx ρ S) := nr rfl
@[simp] theorem execs_cons (s : MS) (ss : List MS) : execs G C (s :: ss) ρ S = match exec G C s ρ S with
    | some (.nx ρ' S') => execs G C ss ρ' S'
    | r => r := nr rfl
/-! ### values -/
@[simp] theorem view_lstE (xs : List D) : view S (.lst xs) = .lst xs := nr rfl
@[simp] theorem view_tupE (xs : List D) : view S (.tup xs) = .tup xs := nr rfl
@[simp] theorem view_intE (i : Int) : view S (.int i) = .int i := nr rfl
@[simp] theorem view_strE (i : Txt) : view S (.str i) = .str i := nr rfl
@[simp] theorem view_blE (i : Bool) : view S (.bl i) = .bl i := nr rfl
@[simp] theorem view_nonE : view S .non = .non := nr rfl
@[simp] theorem view_scrE (ns : List Int) : view S (.scr ns) = .scr ns := nr rfl
@[simp] theorem view_dSE (ks : List Txt) (vs : List D) : view S (.dS ks vs) = .dS ks vs := nr rfl
@[simp] theorem view_dTE (ks vs : List D) : view S (.dT ks vs) = .dT ks vs := nr rfl
@[simp] theorem truD_bl (b : Bool) : truD (.bl b) S = some b := nr rfl
@[simp] theorem pureD_int (i : Int) : pureD (.int i) = true := nr rfl
@[simp] theorem pureD_bl (i : Bool) : pureD (.bl i) = true := nr rfl
@[simp] theorem pureD_str (i : Txt) : pureD (.str i) = true := nr rfl
@[simp] theorem pureD_non : pureD .non = true := nr rfl
@[simp] theorem pureD_tup (xs : List D) : pureD (.tup xs) = pureDs xs := nr rfl
@[simp] theorem pureD_lst (xs : List D) : pureD (.lst xs) = pureDs xs := nr rfl
@[simp] theorem pureDs_nil : pureDs [] = true := nr rfl
@[simp] theorem pureDs_cons (x : D) (xs : List D) : pureDs (x :: xs) = (pureD x && pureDs xs) := nr rfl
@[simp] theorem cmp_lt (i j : Int) : cmpD .lt (.int i) (.int j) S = some (decide (i < j)) := nr rfl
@[simp] theorem cmp_le (i j : Int) : cmpD .le (.int i) (.int j) S = some (decide (i ≤ j)) := nr rfl
@[simp] theorem cmp_gt (i j : Int) : cmpD .gt (.int i) (.int j) S = some (decide (j < i)) := nr rfl
@[simp] theorem cmp_ge (i j : Int) : cmpD .ge (.int i) (.int j) S = some (decide (j ≤ i)) := nr rfl
@[simp] theorem cmp_eqii (i j : Int) : cmpD .eq (.int i) (.int j) S = some (i == j) := nr rfl
@[simp] theorem cmp_neii (i j : Int) : cmpD .ne (.int i) (.int j) S = some (!(i == j)) := nr rfl
@[simp] theorem cmp_eqss (i j : Txt) : cmpD .eq (.str i) (.str j) S = some (i == j) := nr rfl
@[simp] theorem cmp_ness (i j : Txt) : cmpD .ne (.str i) (.str j) S = some (!(i == j)) := nr rfl
@[simp] theorem bin_addI (i j : Int) : binD .add (.int i) (.int j) S = some (.int (i + j)) := nr rfl
@[simp] theorem bin_subI (i j : Int) : binD .sub (.int i) (.int j) S = some (.int (i - j)) := nr rfl
@[simp] theorem bin_mulI (i j : Int) (h : mulOk i j = true) : binD .mul (.int i) (.int j) S = some (.int (i * j)) := by
  show (if mulOk i j then some (D.int (i * j)) else none) = _
  rw [if_pos h]
@[simp] theorem bin_modI (i j : Int) (h : 0 < j) : binD .mod (.int i) (.int j) S = some (.int (i % j)) := by
  show (if decide (0 < j) then some (D.int (i % j)) else none) = _
  rw [if_pos (decide_eq_true h)]
@[simp] theorem bin_fdivI (i j : Int) (h : divOk j = true) : binD .fdiv (.int i) (.int j) S = some (.int (i / j)) := by
  show (if divOk j then some (D.int (i / j)) else none) = _
  rw [if_pos h]
@[simp] theorem bf_abs (i : Int) : bfD .abs [.int i] S = some (.int (if i < 0 then -i else i)) := nr rfl
@[simp] theorem bf_lenT (xs : List D) : bfD .len [.tup xs] S = some (.int xs.length) := nr rfl
@[simp] theorem bf_lenL (xs : List D) : bfD .len [.lst xs] S = some (.int xs.length) := nr rfl
@[simp] theorem bf_lenR (xs : List Int) : bfD .len [.scr xs] S = some (.int xs.length) := nr rfl
@[simp] theorem bf_min2 (i j : Int) : bfD .min2 [.int i, .int j] S = some (.int (if j < i then j else i)) := nr rfl
@[simp] theorem bf_max2 (i j : Int) : bfD .max2 [.int i, .int j] S = some (.int (if j > i then j else i)) := nr rfl
theorem mulOk_left {i j : Int} (h : -18446744073709551616 < i ∧ i < 18446744073709551616) : mulOk i j = true := by
  unfold mulOk small64; simp [h.1, h.2]
theorem mulOk_right {i j : Int} (h : -18446744073709551616 < j ∧ j < 18446744073709551616) : mulOk i j = true := by
  unfold mulOk small64; simp [h.1, h.2]
/-- a def without a store -/
theorem call_pure {T : Nat → Option MDef} {k f : Nat} {d : MDef} {args : List D} {r : D} {S1 : Store} (hT : T f = some d) (hp : d.pur = true) (hn : args.length = d.np) (ha : pureDs args = true) (hr : pureD r = true)
    (h : runBody G (callK G T k) d args [] = some (.ok r S1)) : callK G T (k + 1) f args S = some (.ok r S) := by
  show (match T f with
    | some d => callD G (callK G T k) d args S
    | none => none) = _
  rw [hT]
  show callD G (callK G T k) d args S = _
  unfold callD
  rw [if_pos hn, hp, if_pos rfl, if_pos ha, h]
  show (if pureD r = true then ok r S else none) = _
  rw [if_pos hr]; rfl
theorem call_imp {T : Nat → Option MDef} {k f : Nat} {d : MDef} {args : List D} (hT : T f = some d) (hp : d.pur = false) (hn : args.length = d.np) : callK G T (k + 1) f args S = runBody G (callK G T k) d args S := by
  show (match T f with
    | some d => callD G (callK G T k) d args S
    | none => none) = _
  rw [hT]
  show callD G (callK G T k) d args S = _
  unfold callD
  rw [if_pos hn, hp]; rfl
/-- what a body gives, by its statements -/
theorem run_ret {d : MDef} {args : List D} {r : D} {S1 : Store} (h : execs G C d.body (args.map some ++ List.replicate (d.ns - d.np) none) S = some (.ret r S1)) : runBody G C d args S = some (.ok r S1) := by
  unfold runBody; rw [h]; rfl
end
end KL
end
section
set_option linter.all false
set_option maxRecDepth 100000
set_option maxHeartbeats 2000000
set_option autoImplicit false
set_option exponentiation.threshold 5000
/-! KLFrac: fractions, as the program and the laws hold them. -/
namespace KL
def frD (q : Rat) : D := .tup [.int q.num, .int q.den]
/-- how large the parts of a fraction are -/
def lgt (n k : Nat) : Prop := n < 2 ^ k
theorem lgt_mul {m n a b : Nat} (h : lgt m a) (h2 : lgt n b) : lgt (m * n) (a + b) := by
  unfold lgt; rw [Nat.pow_add]; exact Nat.mul_lt_mul'' h h2
theorem lgt_mono {m a b : Nat} (h : lgt m a) (h2 : a ≤ b) : lgt m b := Nat.lt_of_lt_of_le h (Nat.pow_le_pow_right (by decide) h2)
theorem lgt_le {m n a : Nat} (h : lgt m a) (h2 : n ≤ m) : lgt n a := Nat.lt_of_le_of_lt h2 h
def Smi (i : Int) : Prop := lgt i.natAbs 3000
def Sm (q : Rat) : Prop := lgt q.den 1000 ∧ lgt q.num.natAbs 1000
theorem log_lt {n k : Nat} (h : n < 2 ^ k) (hk : 0 < k) : n.log2 < k := by
  by_cases z : n = 0
  · subst z; simpa using hk
  · exact (Nat.log2_lt z).2 h
theorem mulOk_of {i j : Int} (h : Smi i) (h2 : Smi j) : mulOk i j = true := by
  have a := log_lt h (by decide)
  have b := log_lt h2 (by decide)
  unfold mulOk
  simp only [Bool.or_eq_true, decide_eq_true_eq]
  right; omega
theorem divOk_of {j : Int} (h0 : 0 < j) (h : Smi j) : divOk j = true := by
  have a := log_lt h (by decide)
  unfold divOk
  simp only [Bool.and_eq_true, decide_eq_true_eq]
  exact ⟨h0, by omega⟩
theorem smi_den {q : Rat} (h : Sm q) : Smi (q.den : Int) := by
  unfold Smi; rw [Int.natAbs_natCast]; exact lgt_mono h.1 (by decide)
theorem smi_num {q : Rat} (h : Sm q) : Smi q.num := lgt_mono h.2 (by decide)
theorem den_mul_lt {p q : Rat} (hp : Sm p) (hq : Sm q) : lgt (p.den * q.den) 3000 := lgt_mono (lgt_mul hp.1 hq.1) (by decide)
theorem lt_bigN {b : Nat} (h : lgt b 3000) : b < bigN := lgt_mono (b := 4000) h (by decide)
theorem gcd_step (a b : Nat) : Nat.gcd b (a % b) = Nat.gcd a b := by
  rw [Nat.gcd_comm b, ← Nat.gcd_rec, Nat.gcd_comm]
theorem loopW_more {t : Env → Store → Out Bool} {b : Env → Store → Option SR} {n : Nat} {ρ ρ' : Env} {S S1 S' : Store} {r : Option SR} (ht : t ρ S = some (.ok true S1)) (hb : b ρ S1 = some (.nx ρ' S')) (hr : loopW t b n ρ' S' = r) : loopW t b (n + 1) ρ S = r := by
  show (bndS ρ (t ρ S) fun c S1 => if c then match b ρ S1 with
      | some (.nx ρ' S') => loopW t b n ρ' S'
      | some (.ct ρ' S') => loopW t b n ρ' S'
      | some (.brk ρ' S') => some (.nx ρ' S')
      | r => r
    else some (.nx ρ S1)) = r
  rw [ht, bndS_okS, if_pos rfl, hb]; exact hr
theorem loopW_stop {t : Env → Store → Out Bool} {b : Env → Store → Option SR} {n : Nat} {ρ : Env} {S S1 : Store} (ht : t ρ S = some (.ok false S1)) : loopW t b (n + 1) ρ S = some (.nx ρ S1) := by
  show (bndS ρ (t ρ S) fun c S1 => if c then match b ρ S1 with
      | some (.nx ρ' S') => loopW t b n ρ' S'
      | some (.ct ρ' S') => loopW t b n ρ' S'
      | some (.brk ρ' S') => some (.nx ρ' S')
      | r => r
    else some (.nx ρ S1)) = _
  rw [ht, bndS_okS]; rfl
theorem euclid_ne {G : GCon} {C : CallF} (x y : Option D) : ∀ (fuel a b : Nat), b < fuel →
    loopW (fun ρ S => evalT G C (.v (.cmp .ne (.var 3) (.int 0))) ρ S) (fun ρ S => execs G C [.asg (.tup [.name 2, .name 3]) (.tup [.var 3, .bin .mod (.var 2) (.var 3)])] ρ S) fuel [x, y, some (.int a), some (.int b)] [] = some (.nx [x, y, some (.int (Nat.gcd a b)), some (.int 0)] [])
  | 0, a, b, h => by omega
  | fuel + 1, a, b, h => by
    by_cases hb : b = 0
    · subst hb
      rw [Nat.gcd_zero_right]
      exact loopW_stop (by simp)
    · refine loopW_more (S1 := []) (S' := []) (ρ' := [x, y, some (.int b), some (.int (a % b : Nat))]) (by simp; omega) ?_ ?_
      · have h2 : 0 < b := by omega
        simp [h2]
      · rw [← gcd_step]
        exact euclid_ne x y fuel b (a % b) (by have := Nat.mod_lt a (show b > 0 by omega); omega)
theorem euclid_gt {G : GCon} {C : CallF} (x y : Option D) : ∀ (fuel a b : Nat), b < fuel →
    loopW (fun ρ S => evalT G C (.v (.cmp .gt (.var 3) (.int 0))) ρ S) (fun ρ S => execs G C [.asg (.tup [.name 2, .name 3]) (.tup [.var 3, .bin .mod (.var 2) (.var 3)])] ρ S) fuel [x, y, some (.int a), some (.int b)] [] = some (.nx [x, y, some (.int (Nat.gcd a b)), some (.int 0)] [])
  | 0, a, b, h => by omega
  | fuel + 1, a, b, h => by
    by_cases hb : b = 0
    · subst hb
      rw [Nat.gcd_zero_right]
      exact loopW_stop (by simp)
    · refine loopW_more (S1 := []) (S' := []) (ρ' := [x, y, some (.int b), some (.int (a % b : Nat))]) (by simp; omega) ?_ ?_
      · have h2 : 0 < b := by omega
        simp [h2]
      · rw [← gcd_step]
        exact euclid_gt x y fuel b (a % b) (by have := Nat.mod_lt a (show b > 0 by omega); omega)
theorem frD_div (a : Int) (b : Nat) (hb : 0 < b) : frD (a / b) = .tup [.int (a / (Nat.gcd a.natAbs b : Int)), .int ((b : Int) / (Nat.gcd a.natAbs b : Int))] := by
  have e : (a : Rat) / (b : Rat) = mkRat a b := (Rat.mkRat_eq_div a b).symm
  unfold frD
  rw [e, Rat.num_mkRat, Rat.den_mkRat, if_neg (by omega), if_neg (by omega), Nat.gcd_comm]
  simp
end KL
end
section
set_option linter.all false
set_option maxRecDepth 100000
set_option maxHeartbeats 2000000
set_option exponentiation.threshold 5000
set_option autoImplicit false
namespace K02
open KL
theorem gcd_facts {a : Int} {b : Nat} (hb : 0 < b) (h : lgt b 3000) : divOk (Nat.gcd a.natAbs b : Int) = true := by
  have h1 : 0 < Nat.gcd a.natAbs b := Nat.gcd_pos_of_pos_right _ hb
  have h2 : Nat.gcd a.natAbs b ≤ b := Nat.gcd_le_right _ hb
  refine divOk_of (by omega) ?_
  unfold Smi
  rw [Int.natAbs_natCast]
  exact lgt_le h h2
theorem lowest_ok (k : Nat) (S : Store) (a : Int) (b : Nat) (hb : 0 < b) (h : lgt b 3000) : callK G T (k + 1) i_lowest [.int a, .int b] S = some (.ok (frD (a / b)) S) := by
  refine call_pure (d := m_lowest) rfl rfl rfl rfl (by rw [frD_div a b hb]; rfl) (S1 := []) (run_ret ?_)
  have e := euclid_ne (G := G) (C := callK G T k) (some (.int a)) (some (.int b)) bigN a.natAbs b (lt_bigN h)
  have g := gcd_facts (a := a) hb h
  rw [frD_div a b hb]
  simp only [m_lowest, List.map_cons, List.map_nil, List.replicate, Nat.reduceSub, List.cons_append, List.nil_append]
  rw [execs_cons, show exec G (callK G T k) (.asg (.tup [.name 2, .name 3]) (.tup [.callB .abs [.var 0], .var 1])) [some (D.int a), some (D.int ↑b), none, none] [] = some (.nx [some (.int a), some (.int b), some (.int a.natAbs), some (.int b)] []) from by simp; omega]
  dsimp only
  rw [execs_cons, exec_whl, e]
  simp [g]
theorem low_ok (k : Nat) (S : Store) (a : Int) (b : Nat) (hb : 0 < b) (h : lgt b 3000) : callK G T (k + 1) i_law_low [.int a, .int b] S = some (.ok (frD (a / b)) S) := by
  refine call_pure (d := m_law_low) rfl rfl rfl rfl (by rw [frD_div a b hb]; rfl) (S1 := []) (run_ret ?_)
  have e := euclid_gt (G := G) (C := callK G T k) (some (.int a)) (some (.int b)) bigN a.natAbs b (lt_bigN h)
  have g := gcd_facts (a := a) hb h
  rw [frD_div a b hb]
  simp only [m_law_low, List.map_cons, List.map_nil, List.replicate, Nat.reduceSub, List.cons_append, List.nil_append]
  rw [execs_cons, show exec G (callK G T k) (.asg (.tup [.name 2, .name 3]) (.tup [.callB .abs [.var 0], .var 1])) [some (D.int a), some (D.int ↑b), none, none] [] = some (.nx [some (.int a), some (.int b), some (.int a.natAbs), some (.int b)] []) from by simp; omega]
  dsimp only
  rw [execs_cons, exec_whl, e]
  simp [g]
theorem idx_num (q : Rat) (S : Store) : idxD (frD q) (.int 0) S = some (.int q.num) := nr rfl
theorem idx_den (q : Rat) (S : Store) : idxD (frD q) (.int 1) S = some (.int q.den) := nr rfl
theorem pure_fr (q : Rat) : pureD (frD q) = true := nr rfl
theorem plus_ok (k : Nat) (S : Store) (p q : Rat) (hp : Sm p) (hq : Sm q) : callK G T (k + 2) i_plus [frD p, frD q] S = some (.ok (frD (p + q)) S) := by
  refine call_pure (d := m_plus) rfl rfl rfl (by simp [pure_fr]) (pure_fr _) (S1 := []) (run_ret ?_)
  have e := lowest_ok k [] (p.num * q.den + q.num * p.den) (p.den * q.den) (Nat.mul_pos p.den_pos q.den_pos) (den_mul_lt hp hq)
  rw [← Rat.mkRat_eq_div, ← Rat.add_def', Int.natCast_mul] at e
  simp [m_plus, idx_num, idx_den, mulOk_of (smi_num hp) (smi_den hq), mulOk_of (smi_num hq) (smi_den hp), mulOk_of (smi_den hp) (smi_den hq), e]
theorem times_ok (k : Nat) (S : Store) (q : Rat) (n : Int) (hq : Sm q) (hn : Smi n) : callK G T (k + 2) i_times [frD q, .int n] S = some (.ok (frD (q * n)) S) := by
  refine call_pure (d := m_times) rfl rfl rfl (by simp [pure_fr]) (pure_fr _) (S1 := []) (run_ret ?_)
  have e := lowest_ok k [] (q.num * n) q.den q.den_pos (lgt_mono hq.1 (by decide))
  have e2 : ((q.num * n : Int) : Rat) / (q.den : Rat) = q * n := by
    have h1 : (q.num : Rat) / (q.den : Rat) = q := by rw [← Rat.mkRat_eq_div, Rat.mkRat_self]
    rw [Rat.intCast_mul]
    grind
  rw [e2] at e
  simp [m_times, idx_num, idx_den, mulOk_of (smi_num hq) hn, e]
theorem sm_neg {q : Rat} (h : Sm q) : Sm (q * ((-1 : Int) : Rat)) := by
  have e : q * ((-1 : Int) : Rat) = -q := by grind
  rw [e]
  unfold Sm
  rw [Rat.neg_den, Rat.neg_num, Int.natAbs_neg]
  exact h
theorem minus_ok (k : Nat) (S : Store) (p q : Rat) (hp : Sm p) (hq : Sm q) : callK G T (k + 3) i_minus [frD p, frD q] S = some (.ok (frD (p - q)) S) := by
  refine call_pure (d := m_minus) rfl rfl rfl (by simp [pure_fr]) (pure_fr _) (S1 := []) (run_ret ?_)
  have e := times_ok k [] q (-1) hq (by unfold Smi; exact Nat.one_lt_two_pow (by decide))
  have e2 := plus_ok k [] p (q * ((-1 : Int) : Rat)) hp (sm_neg hq)
  have e3 : p + q * ((-1 : Int) : Rat) = p - q := by grind
  rw [e3] at e2
  have e4 : q * ((-1 : Int) : Rat) = -q := by grind
  rw [e4] at e e2
  simp [m_minus, e, e2]
theorem shared_ok (k : Nat) (S : Store) (q : Rat) (n : Nat) (hq : Sm q) (hn : 0 < n) (hn2 : lgt n 1000) : callK G T (k + 2) i_shared [frD q, .int n] S = some (.ok (frD (q / n)) S) := by
  refine call_pure (d := m_shared) rfl rfl rfl (by simp [pure_fr]) (pure_fr _) (S1 := []) (run_ret ?_)
  have e := lowest_ok k [] q.num (q.den * n) (Nat.mul_pos q.den_pos hn) (lgt_mono (lgt_mul hq.1 hn2) (by decide))
  have e2 : (q.num : Rat) / ((q.den * n : Nat) : Rat) = q / n := by
    have h1 : (q.num : Rat) / (q.den : Rat) = q := by rw [← Rat.mkRat_eq_div, Rat.mkRat_self]
    rw [Rat.natCast_mul]
    grind
  rw [e2, Int.natCast_mul] at e
  have hs : Smi (n : Int) := by unfold Smi; rw [Int.natAbs_natCast]; exact lgt_mono hn2 (by decide)
  simp [m_shared, idx_num, idx_den, mulOk_of (smi_den hq) hs, e]
theorem is_less_ok (k : Nat) (S : Store) (p q : Rat) (hp : Sm p) (hq : Sm q) : callK G T (k + 1) i_is_less [frD p, frD q] S = some (.ok (.bl (decide (p < q))) S) := by
  refine call_pure (d := m_is_less) rfl rfl rfl (by simp [pure_fr]) rfl (S1 := []) (run_ret ?_)
  have e : decide (p < q) = decide (p.num * q.den < q.num * p.den) := by
    rw [decide_eq_decide]; exact Rat.lt_iff ..
  rw [e]
  simp [m_is_less, idx_num, idx_den, mulOk_of (smi_num hp) (smi_den hq), mulOk_of (smi_num hq) (smi_den hp)]
/-- its size -/
def absR (q : Rat) : Rat := if q.num < 0 then -q else q
theorem whole_ok (k : Nat) (S : Store) (n : Int) : callK G T (k + 1) i_whole [.int n] S = some (.ok (frD n) S) := nr rfl
theorem apart_ok (k : Nat) (S : Store) (p q : Rat) (hp : Sm p) (hq : Sm q) : callK G T (k + 4) i_apart [frD p, frD q] S = some (.ok (frD (absR (p - q))) S) := by
  refine call_pure (d := m_apart) rfl rfl rfl (by simp [pure_fr]) (pure_fr _) (S1 := []) (run_ret ?_)
  have e := minus_ok k [] p q hp hq
  have e7 : D.tup [.int (p - q).num, .int ((p - q).den : Int)] = frD (p - q) := rfl
  have e8 : D.tup [.int (-(p - q).num), .int ((p - q).den : Int)] = frD (-(p - q)) := rfl
  by_cases h : (p - q).num < 0
  · simp [m_apart, e, idx_num, idx_den, absR, h, e7, e8]
  · simp [m_apart, e, idx_num, idx_den, absR, h, e7]
theorem law_sum_ok (k : Nat) (S : Store) (p q : Rat) (n : Int) (hp : Sm p) (hq : Sm q) (hn : lgt n.natAbs 1000) : callK G T (k + 2) i_law_sum [frD p, frD q, .int n] S = some (.ok (frD (p + n * q)) S) := by
  refine call_pure (d := m_law_sum) rfl rfl rfl (by simp [pure_fr]) (pure_fr _) (S1 := []) (run_ret ?_)
  have e := low_ok k [] (p.num * q.den + n * q.num * p.den) (p.den * q.den) (Nat.mul_pos p.den_pos q.den_pos) (den_mul_lt hp hq)
  have e2 : ((p.num * q.den + n * q.num * p.den : Int) : Rat) / ((p.den * q.den : Nat) : Rat) = p + n * q := by
    have h1 : (q.num : Rat) / (q.den : Rat) = q := by rw [← Rat.mkRat_eq_div, Rat.mkRat_self]
    have h2 : (p.num : Rat) / (p.den : Rat) = p := by rw [← Rat.mkRat_eq_div, Rat.mkRat_self]
    have h3 : (q.den : Rat) ≠ 0 := by have := q.den_nz; simpa using this
    have h4 : (p.den : Rat) ≠ 0 := by have := p.den_nz; simpa using this
    rw [Rat.natCast_mul, Rat.intCast_add, Rat.intCast_mul, Rat.intCast_mul, Rat.intCast_mul, Rat.intCast_natCast, Rat.intCast_natCast]
    grind
  rw [e2, Int.natCast_mul] at e
  have hs : Smi n := lgt_mono hn (by decide)
  have hs2 : Smi (n * q.num) := by unfold Smi; rw [Int.natAbs_mul]; exact lgt_mono (lgt_mul hn hq.2) (by decide)
  simp [m_law_sum, idx_num, idx_den, mulOk_of (smi_num hp) (smi_den hq), mulOk_of hs (smi_num hq), mulOk_of hs2 (smi_den hp), mulOk_of (smi_den hp) (smi_den hq), e]
end K02
end
section
set_option linter.all false
set_option maxRecDepth 100000
set_option maxHeartbeats 2000000
set_option exponentiation.threshold 5000
set_option autoImplicit false
namespace K02
open KL
inductive Ph | go (g r n : Nat) | hold (s n : Nat) | jump (g n : Nat) | stay
  deriving DecidableEq
def tGo : Txt := [103, 111]
def tHold : Txt := [104, 111, 108, 100]
def tJump : Txt := [106, 117, 109, 112]
def tStay : Txt := [115, 116, 97, 121]
def phD : Ph → D
  | .go g r n => .tup [.str [103, 111], .int g, .int r, .int n]
  | .hold s n => .tup [.str [104, 111, 108, 100], .int s, .int n]
  | .jump g n => .tup [.str [106, 117, 109, 112], .int g, .int n]
  | .stay => .tup [.str [115, 116, 97, 121]]
def phsD (ps : List Ph) : D := .tup (ps.map phD)
theorem pure_ph (p : Ph) : pureD (phD p) = true := by cases p <;> rfl
theorem pure_phs (ps : List Ph) : pureD (phsD ps) = true := by
  show pureDs (ps.map phD) = true
  induction ps with
  | nil => rfl
  | cons p ps ih => simp [pure_ph, ih]
theorem view_fr (q : Rat) (S : Store) : view S (frD q) = frD q := nr rfl
theorem eq_fr (p q : Rat) (S : Store) : cmpD .eq (frD p) (frD q) S = some (decide (p = q)) := by
  have e : cmpD .eq (frD p) (frD q) S = eqLs (eqN 39) [.int p.num, .int p.den] [.int q.num, .int q.den] := rfl
  have e1 : ∀ i j : Int, eqN 39 (.int i) (.int j) = some (i == j) := fun _ _ => rfl
  have e2 : eqLs (eqN 39) [.int p.num, .int (p.den : Int)] [.int q.num, .int (q.den : Int)] = some (decide (p.num = q.num ∧ p.den = q.den)) := by
    simp only [eqLs, e1]
    by_cases h : p.num = q.num <;> by_cases h2 : p.den = q.den <;> simp [h, h2, Int.natCast_inj]
  rw [e, e2]
  congr 1
  rw [decide_eq_decide]
  exact ⟨fun x => Rat.ext x.1 x.2, fun x => by subst x; exact ⟨rfl, rfl⟩⟩
theorem idx_phs {ps : List Ph} {i : Nat} {p : Ph} (h : ps[i]? = some p) (S : Store) : idxD (phsD ps) (.int i) S = some (phD p) := by
  have hl : i < ps.length := by
    have := List.getElem?_eq_some_iff.1 h; exact this.1
  show (match ixOf (ps.map phD).length (i : Int) with
    | some j => (ps.map phD)[j]?
    | none => none) = _
  have e : ixOf (ps.map phD).length (i : Int) = some i := by
    unfold ixOf
    rw [List.length_map, if_pos (by omega), if_pos (by omega)]; simp
  rw [e]
  simp [h]
/-- the phase's goal and the next phase, where it takes no time -/
def Ph.zero (l : Rat) : Ph → Option (Nat × Nat)
  | .jump g n => some (g, n)
  | .go g _ n => if l = (g : Rat) then some (g, n) else none
  | _ => none
def begN (ps : List Ph) : Nat → Nat → Rat → Option (Nat × Rat)
  | 0, _, _ => none
  | n + 1, i, l => match ps[i]? with
    | none => none
    | some p => match p.zero l with
      | none => some (i, l)
      | some (g, j) => begN ps n j (g : Rat)
def Ph.next : Ph → Option Nat
  | .go _ _ n => some n
  | .hold _ n => some n
  | .jump _ n => some n
  | .stay => none
def optD : Option Nat → D
  | none => .non
  | some n => .int n
def Ph.word : Ph → Txt
  | .go _ _ _ => [103, 111]
  | .hold _ _ => [104, 111, 108, 100]
  | .jump _ _ => [106, 117, 109, 112]
  | .stay => [115, 116, 97, 121]
theorem idx_word (p : Ph) (S : Store) : idxD (phD p) (.int 0) S = some (.str p.word) := by cases p <;> rfl
theorem next_of_ok (k : Nat) (S : Store) (p : Ph) : callK G T (k + 1) i_next_of [phD p] S = some (.ok (optD p.next) S) := by
  cases p <;> rfl
theorem wholeN_ok (k : Nat) (S : Store) (n : Nat) : callK G T (k + 1) i_whole [.int n] S = some (.ok (frD (n : Rat)) S) := by
  have := whole_ok k S n
  rwa [Rat.intCast_natCast] at this
/-- the loop over phases that take no time -/
theorem beg_loop (k : Nat) (ps : List Ph) (x t : Option D) (y : Option D) : ∀ (n f i : Nat) (l : Rat) (j : Nat) (l' : Rat), n ≤ f → begN ps n i l = some (j, l') →
    loopW (fun ρ S => evalT G (callK G T (k + 1)) (.or [.v (.cmp .eq (.idx (.idx (.var 0) (.var 2)) (.int 0)) (.str [106, 117, 109, 112])), .and [.v (.cmp .eq (.idx (.idx (.var 0) (.var 2)) (.int 0)) (.str [103, 111])), .v (.cmp .eq (.var 3) (.call i_whole [.idx (.idx (.var 0) (.var 2)) (.int 1)]))]]) ρ S)
      (fun ρ S => execs G (callK G T (k + 1)) [.asg (.name 3) (.call i_whole [.idx (.idx (.var 0) (.var 2)) (.int 1)]), .asg (.name 2) (.call i_next_of [.idx (.var 0) (.var 2)])] ρ S)
      f [some (phsD ps), t, some (.int i), some (frD l), y] [] = some (.nx [some (phsD ps), t, some (.int j), some (frD l'), y] [])
  | 0, f, i, l, j, l', hf, h => by simp [begN] at h
  | n + 1, 0, i, l, j, l', hf, h => by omega
  | n + 1, f + 1, i, l, j, l', hf, h => by
    unfold begN at h
    cases hp : ps[i]? with
    | none => rw [hp] at h; cases h
    | some p =>
      rw [hp] at h
      dsimp only at h
      have hi := idx_phs hp
      have hnx := next_of_ok k [] p
      cases p with
      | stay =>
        cases h
        exact loopW_stop (by simp [hi, idx_word, Ph.word])
      | hold s m =>
        cases h
        exact loopW_stop (by simp [hi, idx_word, Ph.word])
      | jump g m =>
        have ig : ∀ S, idxD (phD (.jump g m)) (.int 1) S = some (.int g) := fun _ => rfl
        have hw := wholeN_ok k [] g
        refine loopW_more (S1 := []) (S' := []) (ρ' := [some (phsD ps), t, some (.int m), some (frD (g : Rat)), y]) (by simp [hi, idx_word, Ph.word]) ?_ (beg_loop k ps x t y n f m (g : Rat) j l' (by omega) h)
        simp [hi, ig, hw, hnx, Ph.next, optD]
      | go g r m =>
        have ig : ∀ S, idxD (phD (.go g r m)) (.int 1) S = some (.int g) := fun _ => rfl
        have hw := wholeN_ok k [] g
        by_cases hl : l = (g : Rat)
        · simp only [Ph.zero, if_pos hl] at h
          refine loopW_more (S1 := []) (S' := []) (ρ' := [some (phsD ps), t, some (.int m), some (frD (g : Rat)), y]) (by simp [hi, idx_word, Ph.word, ig, hw, eq_fr, hl]) ?_ (beg_loop k ps x t y n f m (g : Rat) j l' (by omega) h)
          simp [hi, ig, hw, hnx, Ph.next, optD]
        · simp only [Ph.zero, if_neg hl] at h
          cases h
          exact loopW_stop (by simp [hi, idx_word, Ph.word, ig, hw, eq_fr, hl])
def Ph.left : Ph → D
  | .hold s _ => frD (s : Rat)
  | _ => .non
/-- a state of the program: clock, phase, level, left -/
def stD (t : Rat) (p : Ph) (i : Nat) (l : Rat) : D := .tup [frD t, .int i, frD l, p.left]
theorem begN_phase {ps : List Ph} : ∀ {n i : Nat} {l : Rat} {j : Nat} {l' : Rat}, begN ps n i l = some (j, l') → ∃ p, ps[j]? = some p ∧ p.zero l' = none
  | 0, i, l, j, l', h => by simp [begN] at h
  | n + 1, i, l, j, l', h => by
    unfold begN at h
    cases hp : ps[i]? with
    | none => rw [hp] at h; cases h
    | some p =>
      rw [hp] at h
      dsimp only at h
      cases hz : p.zero l with
      | none => rw [hz] at h; cases h; exact ⟨p, hp, hz⟩
      | some z => rw [hz] at h; exact begN_phase h
theorem begun_ok (k : Nat) (S : Store) {ps : List Ph} {n i : Nat} {t l : Rat} {j : Nat} {l' : Rat} {p : Ph} (hn : n ≤ bigN) (h : begN ps n i l = some (j, l')) (hp : ps[j]? = some p) :
    callK G T (k + 2) i_begun_phase [phsD ps, frD t, .int i, frD l] S = some (.ok (stD t p j l') S) := by
  refine call_pure (d := m_begun_phase) rfl rfl rfl (by simp [pure_fr, pure_phs]) (by cases p <;> rfl) (S1 := []) (run_ret ?_)
  have e := beg_loop k ps (some (phsD ps)) (some (frD t)) none n bigN i l j l' hn h
  simp only [m_begun_phase, List.map_cons, List.map_nil, List.replicate, Nat.reduceSub, List.cons_append, List.nil_append]
  rw [execs_cons, exec_whl, e]
  have hi := idx_phs hp
  cases p with
  | hold s m =>
    have ig : ∀ S, idxD (phD (.hold s m)) (.int 1) S = some (.int s) := fun _ => rfl
    have hw := wholeN_ok k [] s
    simp [hi, idx_word, Ph.word, ig, hw, stD, Ph.left]
  | stay => simp [hi, idx_word, Ph.word, stD, Ph.left]
  | jump g m => simp [hi, idx_word, Ph.word, stD, Ph.left]
  | go g r m => simp [hi, idx_word, Ph.word, stD, Ph.left]
end K02
end
section
set_option linter.all false
set_option maxRecDepth 100000
set_option maxHeartbeats 2000000
set_option exponentiation.threshold 5000
set_option autoImplicit false
namespace K02
open KL
theorem isN_fr (q : Rat) (S : Store) : cmpD .isN (frD q) .non S = some false := nr rfl
theorem notN_fr (q : Rat) (S : Store) : cmpD .notN (frD q) .non S = some true := nr rfl
theorem isN_int (q : Int) (S : Store) : cmpD .isN (.int q) .non S = some false := nr rfl
theorem notN_int (q : Int) (S : Store) : cmpD .notN (.int q) .non S = some true := nr rfl
theorem isN_non (S : Store) : cmpD .isN .non .non S = some true := nr rfl
theorem notN_non (S : Store) : cmpD .notN .non .non S = some false := nr rfl
/-- how long a begun phase takes -/
def Ph.dur (l : Rat) : Ph → Option Rat
  | .hold s _ => some (s : Rat)
  | .go g r _ => some (absR (l - (g : Rat)) / (r : Rat))
  | _ => none
def optF : Option Rat → D
  | none => .non
  | some q => frD q
theorem time_left_ok (k : Nat) (S : Store) {ps : List Ph} {t l : Rat} {i : Nat} {p : Ph} (hp : ps[i]? = some p) (hj : ∀ g n, p ≠ .jump g n) (hl : Sm l)
    (hg : ∀ g r n, p = .go g r n → Sm (g : Rat) ∧ Sm (absR (l - (g : Rat))) ∧ 0 < r ∧ lgt r 1000) :
    callK G T (k + 5) i_time_left [phsD ps, stD t p i l] S = some (.ok (optF (p.dur l)) S) := by
  refine call_pure (d := m_time_left) rfl rfl rfl (by cases p <;> simp [pure_phs, stD, pure_fr, Ph.left]) (by cases p <;> rfl) (S1 := []) (run_ret ?_)
  have hi := idx_phs hp
  cases p with
  | hold s m => simp [m_time_left, hi, idx_word, Ph.word, stD, Ph.left, isN_int, notN_fr, Ph.dur, optF]
  | stay => simp [m_time_left, hi, idx_word, Ph.word, stD, Ph.left, isN_int, Ph.dur, optF]
  | jump g m => exact absurd rfl (hj g m)
  | go g r m =>
    obtain ⟨h1, h2, h3, h4⟩ := hg g r m rfl
    have ig : ∀ S, idxD (phD (.go g r m)) (.int 1) S = some (.int g) := fun _ => rfl
    have ir : ∀ S, idxD (phD (.go g r m)) (.int 2) S = some (.int r) := fun _ => rfl
    have hw := wholeN_ok (k + 3) [] g
    have ha := apart_ok k [] l g hl h1
    have hs := shared_ok (k + 2) [] (absR (l - (g : Rat))) r h2 h3 h4
    simp [m_time_left, hi, idx_word, Ph.word, stD, Ph.left, isN_int, notN_non, ig, ir, hw, ha, hs, Ph.dur, optF]
/-- nothing begun yet -/
def st0 (t l : Rat) : D := .tup [frD t, .non, frD l, .non]
theorem time_left0_ok (k : Nat) (S : Store) {ps : List Ph} {t l : Rat} : callK G T (k + 1) i_time_left [phsD ps, st0 t l] S = some (.ok .non S) := by
  refine call_pure (d := m_time_left) rfl rfl rfl (by simp [pure_phs, st0, pure_fr]) rfl (S1 := []) (run_ret ?_)
  simp [m_time_left, st0, isN_non]
/-- which way a level goes -/
def sgn (l : Rat) (g : Nat) : Int := if l < (g : Rat) then 1 else -1
/-- the level d later -/
def Ph.lev (l d : Rat) : Ph → Rat
  | .go g r _ => l + d * ((sgn l g * (r : Int) : Int) : Rat)
  | _ => l
def Ph.rest (d : Rat) : Ph → D
  | .hold s _ => frD ((s : Rat) - d)
  | _ => .non
theorem bin_neg1 (i : Int) : (if 0 < i then i else i) = i := by split <;> rfl
theorem moved_ok (k : Nat) (S : Store) {ps : List Ph} {t l m : Rat} {i : Nat} {p : Ph} (hp : ps[i]? = some p) (ht : Sm t) (hm : Sm m) (hd : Sm (m - t)) (hl : Sm l)
    (hs : ∀ s n, p = .hold s n → Sm (s : Rat)) (hg : ∀ g r n, p = .go g r n → Sm (g : Rat) ∧ lgt r 1000 ∧ Sm ((m - t) * ((sgn l g * (r : Int) : Int) : Rat))) :
    callK G T (k + 5) i_moved [phsD ps, stD t p i l, frD m] S = some (.ok (.tup [frD m, .int i, frD (p.lev l (m - t)), p.rest (m - t)]) S) := by
  refine call_pure (d := m_moved) rfl rfl rfl (by cases p <;> simp [pure_phs, stD, pure_fr, Ph.left]) (by cases p <;> rfl) (S1 := []) (run_ret ?_)
  have hi := idx_phs hp
  have e := minus_ok (k + 1) [] m t hm ht
  cases p with
  | hold s n =>
    have e2 := minus_ok (k + 1) [] (s : Rat) (m - t) (hs s n rfl) hd
    simp [m_moved, stD, Ph.left, notN_fr, e, e2, Ph.lev, Ph.rest]
  | stay => simp [m_moved, hi, idx_word, Ph.word, stD, Ph.left, notN_int, notN_non, Ph.lev, Ph.rest, e]
  | jump g n => simp [m_moved, hi, idx_word, Ph.word, stD, Ph.left, notN_int, notN_non, Ph.lev, Ph.rest, e]
  | go g r n =>
    obtain ⟨h1, h2, h3⟩ := hg g r n rfl
    have ig : ∀ S, idxD (phD (.go g r n)) (.int 1) S = some (.int g) := fun _ => rfl
    have ir : ∀ S, idxD (phD (.go g r n)) (.int 2) S = some (.int r) := fun _ => rfl
    have hw := wholeN_ok (k + 3) [] g
    have hr : Smi (r : Int) := by unfold Smi; rw [Int.natAbs_natCast]; exact lgt_mono h2 (by decide)
    have hq : Smi (sgn l g * (r : Int)) := by
      unfold Smi sgn
      split
      · rw [Int.one_mul, Int.natAbs_natCast]; exact lgt_mono h2 (by decide)
      · rw [Int.neg_mul, Int.one_mul, Int.natAbs_neg, Int.natAbs_natCast]; exact lgt_mono h2 (by decide)
    have e2 := times_ok (k + 2) [] (m - t) (sgn l g * (r : Int)) hd hq
    have e3 := plus_ok (k + 2) [] l ((m - t) * ((sgn l g * (r : Int) : Int) : Rat)) hl h3
    have e4 := is_less_ok (k + 3) [] l (g : Rat) hl h1
    have hk : mulOk (sgn l g) (r : Int) = true := mulOk_of (by unfold Smi sgn; split <;> exact Nat.one_lt_two_pow (by decide)) hr
    unfold sgn at e2 e3 hk
    by_cases hlt : l < (g : Rat)
    · have q0 : (1 : Int) * (r : Int) = r := by omega
      simp only [m_moved, List.map_cons, List.map_nil, List.replicate, Nat.reduceSub, List.cons_append, List.nil_append, stD, Ph.left, Ph.lev, Ph.rest, sgn, if_pos hlt]
      rw [if_pos hlt] at e2 e3 hk
      rw [q0, Rat.intCast_natCast] at e2 e3
      rw [q0, Rat.intCast_natCast]
      simp [hi, idx_word, Ph.word, notN_int, notN_non, ig, ir, hw, e, e4, hlt, hk, e2, e3]
    · have q0 : (-1 : Int) * (r : Int) = -r := by omega
      have q1 : ((-(r : Int) : Int) : Rat) = -(r : Rat) := by rw [Rat.intCast_neg, Rat.intCast_natCast]
      simp only [m_moved, List.map_cons, List.map_nil, List.replicate, Nat.reduceSub, List.cons_append, List.nil_append, stD, Ph.left, Ph.lev, Ph.rest, sgn, if_neg hlt]
      rw [if_neg hlt] at e2 e3 hk
      rw [q0, q1] at e2 e3
      rw [q0, q1]
      simp [hi, idx_word, Ph.word, notN_int, notN_non, ig, ir, hw, e, e4, hlt, hk, q0, e2, e3]
theorem moved0_ok (k : Nat) (S : Store) {ps : List Ph} {t l m : Rat} (ht : Sm t) (hm : Sm m) : callK G T (k + 4) i_moved [phsD ps, st0 t l, frD m] S = some (.ok (st0 m l) S) := by
  refine call_pure (d := m_moved) rfl rfl rfl (by simp [pure_phs, st0, pure_fr]) rfl (S1 := []) (run_ret ?_)
  have e := minus_ok k [] m t hm ht
  simp [m_moved, st0, notN_non, e]
end K02
end
section
set_option linter.all false
set_option maxRecDepth 100000
set_option maxHeartbeats 2000000
set_option exponentiation.threshold 5000
set_option autoImplicit false
namespace K02
open KL
theorem frN (n : Nat) : D.tup [.int n, .int 1] = frD (n : Rat) := by
  unfold frD; rw [Rat.num_natCast, Rat.den_natCast]; rfl
theorem lbeg_loop (k : Nat) (ps : List Ph) (c x y z : Option D) : ∀ (n f i : Nat) (l : Rat) (j : Nat) (l' : Rat), n ≤ f → begN ps n i l = some (j, l') →
    loopW (fun ρ S => evalT G (callK G T k) (.or [.v (.cmp .eq (.idx (.idx (.var 0) (.var 1)) (.int 0)) (.str [106, 117, 109, 112])), .and [.v (.cmp .eq (.idx (.idx (.var 0) (.var 1)) (.int 0)) (.str [103, 111])), .v (.cmp .eq (.var 2) (.tup [.idx (.idx (.var 0) (.var 1)) (.int 1), .int 1]))]]) ρ S)
      (fun ρ S => execs G (callK G T k) [.asg (.tup [.name 2, .name 1]) (.tup [.tup [.idx (.idx (.var 0) (.var 1)) (.int 1), .int 1], .idx (.idx (.var 0) (.var 1)) (.neg (.int 1))])] ρ S)
      f [some (phsD ps), some (.int i), some (frD l), c, x, y, z] [] = some (.nx [some (phsD ps), some (.int j), some (frD l'), c, x, y, z] [])
  | 0, f, i, l, j, l', hf, h => by simp [begN] at h
  | n + 1, 0, i, l, j, l', hf, h => by omega
  | n + 1, f + 1, i, l, j, l', hf, h => by
    unfold begN at h
    cases hp : ps[i]? with
    | none => rw [hp] at h; cases h
    | some p =>
      rw [hp] at h
      dsimp only at h
      have hi := idx_phs hp
      cases p with
      | stay =>
        cases h
        exact loopW_stop (by simp [hi, idx_word, Ph.word])
      | hold s m =>
        cases h
        exact loopW_stop (by simp [hi, idx_word, Ph.word])
      | jump g m =>
        have ig : ∀ S, idxD (phD (.jump g m)) (.int 1) S = some (.int g) := fun _ => rfl
        have im : ∀ S, idxD (phD (.jump g m)) (.int (-1)) S = some (.int m) := fun _ => rfl
        refine loopW_more (S1 := []) (S' := []) (ρ' := [some (phsD ps), some (.int m), some (frD (g : Rat)), c, x, y, z]) (by simp [hi, idx_word, Ph.word]) ?_ (lbeg_loop k ps c x y z n f m (g : Rat) j l' (by omega) h)
        simp [hi, ig, im, frN]
      | go g r m =>
        have ig : ∀ S, idxD (phD (.go g r m)) (.int 1) S = some (.int g) := fun _ => rfl
        have im : ∀ S, idxD (phD (.go g r m)) (.int (-1)) S = some (.int m) := fun _ => rfl
        by_cases hl : l = (g : Rat)
        · simp only [Ph.zero, if_pos hl] at h
          refine loopW_more (S1 := []) (S' := []) (ρ' := [some (phsD ps), some (.int m), some (frD (g : Rat)), c, x, y, z]) (by simp [hi, idx_word, Ph.word, ig, frN, eq_fr, hl]) ?_ (lbeg_loop k ps c x y z n f m (g : Rat) j l' (by omega) h)
          simp [hi, ig, im, frN]
        · simp only [Ph.zero, if_neg hl] at h
          cases h
          exact loopW_stop (by simp [hi, idx_word, Ph.word, ig, frN, eq_fr, hl])
/-- a state of the law -/
def lawD (i : Nat) (l t : Rat) (e : Option Rat) : D := .dS [[112, 104, 97, 115, 101], [108, 101, 118, 101, 108], [99, 108, 111, 99, 107], [101, 110, 100]] [.int i, frD l, frD t, optF e]
theorem keys4 (a b c d : D) : keysTxt [[112, 104, 97, 115, 101], [108, 101, 118, 101, 108], [99, 108, 111, 99, 107], [101, 110, 100]] [a, b, c, d] = ([[112, 104, 97, 115, 101], [108, 101, 118, 101, 108], [99, 108, 111, 99, 107], [101, 110, 100]], [a, b, c, d]) := nr rfl
theorem pure_lawD (i : Nat) (l t : Rat) (e : Option Rat) : pureD (lawD i l t e) = true := by cases e <;> rfl
theorem abs_low (k : Nat) (w : Rat) (r : Nat) (hw : Sm w) (hr : 0 < r) (hr2 : lgt r 1000) : callK G T (k + 1) i_law_low [.int (if w.num < 0 then -w.num else w.num), .int (w.den * r)] [] = some (.ok (frD (absR w / r)) []) := by
  have e := low_ok k [] (absR w).num ((absR w).den * r) (Nat.mul_pos (absR w).den_pos hr) (by
    have : (absR w).den = w.den := by unfold absR; split <;> rfl
    rw [this]; exact lgt_mono (lgt_mul hw.1 hr2) (by decide))
  have e2 : ((absR w).num : Rat) / (((absR w).den * r : Nat) : Rat) = absR w / r := by
    have h1 : ((absR w).num : Rat) / ((absR w).den : Rat) = absR w := by rw [← Rat.mkRat_eq_div, Rat.mkRat_self]
    rw [Rat.natCast_mul]
    grind
  rw [e2, Int.natCast_mul] at e
  have h3 : (absR w).num = if w.num < 0 then -w.num else w.num := by unfold absR; split <;> rfl
  have h4 : (absR w).den = w.den := by unfold absR; split <;> rfl
  rw [h3, h4] at e
  exact e
theorem lbegin_ok (k : Nat) (S : Store) {ps : List Ph} {n i : Nat} {t l : Rat} {j : Nat} {l' : Rat} {p : Ph} (hn : n ≤ bigN) (h : begN ps n i l = some (j, l')) (hp : ps[j]? = some p) (ht : Sm t) (hl : Sm l')
    (hs : ∀ s m, p = .hold s m → Sm (s : Rat)) (hg : ∀ g r m, p = .go g r m → Sm (g : Rat) ∧ Sm (l' - (g : Rat)) ∧ 0 < r ∧ lgt r 1000 ∧ Sm (absR (l' - (g : Rat)) / r)) :
    callK G T (k + 4) i_law_begin [phsD ps, .int i, frD l, frD t] S = some (.ok (lawD j l' t ((p.dur l').map (t + ·))) S) := by
  refine call_pure (d := m_law_begin) rfl rfl rfl (by simp [pure_fr, pure_phs]) (pure_lawD ..) (S1 := []) (run_ret ?_)
  have e := lbeg_loop (k + 3) ps (some (frD t)) none none none n bigN i l j l' hn h
  simp only [m_law_begin, List.map_cons, List.map_nil, List.replicate, Nat.reduceSub, List.cons_append, List.nil_append]
  rw [execs_cons, exec_whl, e]
  have hi := idx_phs hp
  have one : lgt (Int.natAbs 1) 1000 := Nat.one_lt_two_pow (by decide)
  have one' : lgt (Int.natAbs (-1)) 1000 := Nat.one_lt_two_pow (by decide)
  obtain ⟨q, hz⟩ := begN_phase h
  rw [hp] at hz
  obtain ⟨h0, hz⟩ := hz
  cases h0
  cases p with
  | stay => simp [hi, idx_word, Ph.word, lawD, Ph.dur, optF, keys4]
  | jump g m => cases hz
  | hold s m =>
    have ig : ∀ S, idxD (phD (.hold s m)) (.int 1) S = some (.int s) := fun _ => rfl
    have e1 := law_sum_ok (k + 1) [] t (s : Rat) 1 ht (hs s m rfl) one
    have e2 : t + ((1 : Int) : Rat) * (s : Rat) = t + s := by grind
    rw [e2] at e1
    simp [hi, idx_word, Ph.word, ig, frN, e1, lawD, Ph.dur, optF, keys4]
  | go g r m =>
    obtain ⟨h1, h2, h3, h4, h5⟩ := hg g r m rfl
    have ig : ∀ S, idxD (phD (.go g r m)) (.int 1) S = some (.int g) := fun _ => rfl
    have ir : ∀ S, idxD (phD (.go g r m)) (.int 2) S = some (.int r) := fun _ => rfl
    have e1 := law_sum_ok (k + 1) [] l' (g : Rat) (-1) hl h1 one'
    have e2 : l' + ((-1 : Int) : Rat) * (g : Rat) = l' - g := by grind
    rw [e2] at e1
    have e3 := abs_low (k + 2) (l' - (g : Rat)) r h2 h3 h4
    have e4 := law_sum_ok (k + 1) [] t (absR (l' - (g : Rat)) / r) 1 ht h5 one
    have e5 : t + ((1 : Int) : Rat) * (absR (l' - (g : Rat)) / r) = t + absR (l' - (g : Rat)) / r := by grind
    rw [e5] at e4
    have hk : mulOk ((l' - (g : Rat)).den : Int) (r : Int) = true := mulOk_of (smi_den h2) (by unfold Smi; rw [Int.natAbs_natCast]; exact lgt_mono h4 (by decide))
    obtain ⟨W, N, DD, i0, i1, hk, e3, e1⟩ : ∃ (W : D) (N DD : Int), (∀ S, idxD W (.int 0) S = some (.int N)) ∧ (∀ S, idxD W (.int 1) S = some (.int DD)) ∧ mulOk DD (r : Int) = true ∧
        callK G T (k + 3) i_law_low [.int (if N < 0 then -N else N), .int (DD * r)] [] = some (.ok (frD (absR (l' - (g : Rat)) / r)) []) ∧
        callK G T (k + 3) i_law_sum [frD l', frD (g : Rat), .int (-1)] [] = some (.ok W []) :=
      ⟨frD (l' - (g : Rat)), (l' - (g : Rat)).num, ((l' - (g : Rat)).den : Int), idx_num _, idx_den _, hk, e3, e1⟩
    simp [hi, idx_word, Ph.word, ig, ir, frN, e1, i0, i1, hk, e3, e4, lawD, Ph.dur, optF, keys4]
end K02
end
section
set_option linter.all false
set_option maxRecDepth 100000
set_option maxHeartbeats 2000000
set_option exponentiation.threshold 5000
set_option autoImplicit false
namespace K02
open KL
/-- the level when a phase's time is over -/
def Ph.after (l : Rat) : Ph → Rat
  | .go g _ _ => (g : Rat)
  | _ => l
/-- a begun state whose numbers are small enough -/
structure OkS (ps : List Ph) (m t : Rat) (i : Nat) (l : Rat) (p : Ph) : Prop where
  hp : ps[i]? = some p
  hz : p.zero l = none
  st : Sm t
  sl : Sm l
  sd : Sm (m - t)
  hs : ∀ s n, p = .hold s n → Sm (s : Rat)
  hg : ∀ g r n, p = .go g r n → Sm (g : Rat) ∧ Sm (l - (g : Rat)) ∧ Sm (absR (l - (g : Rat))) ∧ 0 < r ∧ lgt r 1000 ∧ Sm (absR (l - (g : Rat)) / r) ∧ Sm ((m - t) * ((sgn l g * (r : Int) : Int) : Rat))
  he : ∀ d, p.dur l = some d → Sm d ∧ Sm (t + d)
/-- from a begun state to the one in which moment m lies, in n phases -/
inductive Led (ps : List Ph) (z : Nat) (m : Rat) : Nat → Rat → Nat → Rat → Rat → Nat → Rat → Prop
  | rest {n : Nat} {t : Rat} {i : Nat} {l : Rat} {p : Ph} (ok : OkS ps m t i l p) (h : ∀ d, p.dur l = some d → m < t + d) : Led ps z m n t i l t i l
  | step {n : Nat} {t : Rat} {i : Nat} {l : Rat} {p : Ph} {d : Rat} {j i1 : Nat} {l1 t2 : Rat} {i2 : Nat} {l2 : Rat} (ok : OkS ps m t i l p) (hd : p.dur l = some d) (hle : t + d ≤ m) (hn : p.next = some j)
      (hb : begN ps z j (p.after l) = some (i1, l1)) (r : Led ps z m n (t + d) i1 l1 t2 i2 l2) : Led ps z m (n + 1) t i l t2 i2 l2
theorem idx_lphase (i : Nat) (l t : Rat) (e : Option Rat) (S : Store) : idxD (lawD i l t e) (.str [112, 104, 97, 115, 101]) S = some (.int i) := nr rfl
theorem idx_llevel (i : Nat) (l t : Rat) (e : Option Rat) (S : Store) : idxD (lawD i l t e) (.str [108, 101, 118, 101, 108]) S = some (frD l) := nr rfl
theorem idx_lclock (i : Nat) (l t : Rat) (e : Option Rat) (S : Store) : idxD (lawD i l t e) (.str [99, 108, 111, 99, 107]) S = some (frD t) := nr rfl
theorem idx_lend (i : Nat) (l t : Rat) (e : Option Rat) (S : Store) : idxD (lawD i l t e) (.str [101, 110, 100]) S = some (optF e) := nr rfl
theorem mul_ev {C : CallF} {A B : ME} {ρ : Env} {S : Store} {i j : Int} (ha : evalE G C A ρ S = some (.ok (.int i) S)) (hb : evalE G C B ρ S = some (.ok (.int j) S)) (h : mulOk i j = true) : evalE G C (.bin .mul A B) ρ S = some (.ok (.int (i * j)) S) := by
  rw [evalE_bin, ha, bnd_okS, hb, bnd_okS, bin_mulI _ _ h]; rfl
theorem part_ev {C : CallF} {A : ME} {ρ : Env} {S : Store} {p : Rat} (ha : evalE G C A ρ S = some (.ok (frD p) S)) : evalE G C (.idx A (.int 0)) ρ S = some (.ok (.int p.num) S) ∧ evalE G C (.idx A (.int 1)) ρ S = some (.ok (.int p.den) S) := by
  constructor
  · rw [evalE_idx, ha, bnd_okS, evalE_int, bnd_okS, idx_num]; rfl
  · rw [evalE_idx, ha, bnd_okS, evalE_int, bnd_okS, idx_den]; rfl
/-- one fraction is at most another, as the law asks it -/
theorem le_ev {C : CallF} {A B : ME} {ρ : Env} {S : Store} {p q : Rat} (ha : evalE G C A ρ S = some (.ok (frD p) S)) (hb : evalE G C B ρ S = some (.ok (frD q) S)) (hp : Sm p) (hq : Sm q) :
    evalE G C (.cmp .le (.bin .mul (.idx A (.int 0)) (.idx B (.int 1))) (.bin .mul (.idx B (.int 0)) (.idx A (.int 1)))) ρ S = some (.ok (.bl (decide (p ≤ q))) S) := by
  have e1 := mul_ev (part_ev ha).1 (part_ev hb).2 (mulOk_of (smi_num hp) (smi_den hq))
  have e2 := mul_ev (part_ev hb).1 (part_ev ha).2 (mulOk_of (smi_num hq) (smi_den hp))
  have e : decide (p ≤ q) = decide (p.num * q.den ≤ q.num * p.den) := by
    rw [decide_eq_decide]; exact Rat.le_iff ..
  rw [evalE_cmp, e1, bnd_okS, e2, bnd_okS, cmp_le, e]; rfl
def lq : MQ := .and [.v (.cmp .notN (.idx (.var 1) (.str [101, 110, 100])) (.non)), .v (.cmp .le (.bin .mul (.idx (.idx (.var 1) (.str [101, 110, 100])) (.int 0)) (.idx (.var 2) (.int 1))) (.bin .mul (.idx (.var 2) (.int 0)) (.idx (.idx (.var 1) (.str [101, 110, 100])) (.int 1))))]
def lb : List MS := [
    .asg (.name 3) (.idx (.var 0) (.idx (.var 1) (.str [112, 104, 97, 115, 101]))), 
    .asg (.name 4) (.ife (.v (.cmp .eq (.idx (.var 3) (.int 0)) (.str [104, 111, 108, 100]))) (.idx (.var 1) (.str [108, 101, 118, 101, 108])) (.tup [.idx (.var 3) (.int 1), .int 1])), 
    .asg (.name 1) (.call i_law_begin [.var 0, .idx (.var 3) (.neg (.int 1)), .var 4, .idx (.var 1) (.str [101, 110, 100])])]
theorem lq_none {C : CallF} {ps : List Ph} {i : Nat} {l t m : Rat} {a b c d : Option D} : evalT G C lq [some (phsD ps), some (lawD i l t none), some (frD m), a, b, c, d] [] = some (.ok false []) := by
  simp [lq, idx_lend, optF, notN_non]
theorem lq_some {C : CallF} {ps : List Ph} {i : Nat} {l t m e : Rat} {a b c d : Option D} (he : Sm e) (hm : Sm m) : evalT G C lq [some (phsD ps), some (lawD i l t (some e)), some (frD m), a, b, c, d] [] = some (.ok (decide (e ≤ m)) []) := by
  have h := le_ev (C := C) (A := .idx (.var 1) (.str [101, 110, 100])) (B := .var 2) (ρ := [some (phsD ps), some (lawD i l t (some e)), some (frD m), a, b, c, d]) (S := []) (p := e) (q := m) (by simp [idx_lend, optF]) (by simp) he hm
  unfold lq
  have h1 : evalT G C (.v (.cmp .notN (.idx (.var 1) (.str [101, 110, 100])) (.non))) [some (phsD ps), some (lawD i l t (some e)), some (frD m), a, b, c, d] [] = some (.ok true []) := by
    simp [idx_lend, optF, notN_fr]
  rw [evalT_and, evalTs_cons, h1, bnd_okS, if_pos rfl, evalTs_cons, evalT_v, h]
  by_cases hle : e ≤ m <;> simp [hle]
/-- one turn of the law's loop -/
theorem lb_ok (k : Nat) {ps : List Ph} {z : Nat} {m t l d : Rat} {i j i1 : Nat} {l1 : Rat} {p p1 : Ph} {a b x y : Option D} (hz : z ≤ bigN) (ok : OkS ps m t i l p) (hd : p.dur l = some d) (hn : p.next = some j)
    (hb : begN ps z j (p.after l) = some (i1, l1)) (ok1 : OkS ps m (t + d) i1 l1 p1) :
    ∃ a' b', execs G (callK G T (k + 4)) lb [some (phsD ps), some (lawD i l t (some (t + d))), some (frD m), a, b, x, y] [] =
      some (.nx [some (phsD ps), some (lawD i1 l1 (t + d) ((p1.dur l1).map (t + d + ·))), some (frD m), a', b', x, y] []) := by
  have hi := idx_phs ok.hp
  have e := lbegin_ok k [] (t := t + d) hz hb ok1.hp ok1.st ok1.sl ok1.hs (fun g r n h => by obtain ⟨h1, h2, h3, h4, h5, h6, h7⟩ := ok1.hg g r n h; exact ⟨h1, h2, h4, h5, h6⟩)
  refine ⟨some (phD p), some (frD (p.after l)), ?_⟩
  cases p with
  | stay => cases hd
  | jump g n => cases hd
  | hold s n =>
    cases hn
    have im : ∀ S, idxD (phD (.hold s j)) (.int (-1)) S = some (.int j) := fun _ => nr rfl
    simp only [Ph.after] at e
    simp [lb, idx_lphase, idx_llevel, idx_lend, hi, idx_word, Ph.word, optF, im, Ph.after, e]
  | go g r n =>
    cases hn
    have ig : ∀ S, idxD (phD (.go g r j)) (.int 1) S = some (.int g) := fun _ => nr rfl
    have im : ∀ S, idxD (phD (.go g r j)) (.int (-1)) S = some (.int j) := fun _ => nr rfl
    simp only [Ph.after] at e
    simp [lb, idx_lphase, idx_llevel, idx_lend, hi, idx_word, Ph.word, optF, ig, im, frN, Ph.after, e]
theorem Led.first {ps : List Ph} {z n : Nat} {m t l t2 l2 : Rat} {i i2 : Nat} (h : Led ps z m n t i l t2 i2 l2) : ∃ p, OkS ps m t i l p := by
  cases h with
  | rest ok _ => exact ⟨_, ok⟩
  | step ok _ _ _ _ _ => exact ⟨_, ok⟩
theorem led_loop (k : Nat) {ps : List Ph} {z : Nat} {m : Rat} (hz : z ≤ bigN) (hm : Sm m) (x y : Option D) : ∀ {n : Nat} {t : Rat} {i : Nat} {l t2 : Rat} {i2 : Nat} {l2 : Rat}, Led ps z m n t i l t2 i2 l2 → ∀ (f : Nat) (p : Ph) (a b : Option D), n < f → OkS ps m t i l p →
    ∃ p2 a' b', OkS ps m t2 i2 l2 p2 ∧ loopW (fun ρ S => evalT G (callK G T (k + 4)) lq ρ S) (fun ρ S => execs G (callK G T (k + 4)) lb ρ S) f [some (phsD ps), some (lawD i l t ((p.dur l).map (t + ·))), some (frD m), a, b, x, y] [] =
      some (.nx [some (phsD ps), some (lawD i2 l2 t2 ((p2.dur l2).map (t2 + ·))), some (frD m), a', b', x, y] []) := by
  intro n t i l t2 i2 l2 h
  induction h with
  | @rest n t i l p0 ok h =>
    intro f p a b hf okp
    have e0 : p = p0 := Option.some.inj (okp.hp.symm.trans ok.hp)
    subst e0
    obtain ⟨f, rfl⟩ : ∃ g, f = g + 1 := ⟨f - 1, by omega⟩
    refine ⟨p, a, b, ok, ?_⟩
    cases hd : p.dur l with
    | none => exact loopW_stop lq_none
    | some d =>
      have := h d hd
      refine loopW_stop ?_
      show evalT G _ lq [some (phsD ps), some (lawD i l t (some (t + d))), some (frD m), a, b, x, y] [] = _
      rw [lq_some (ok.he d hd).2 hm]
      have e : decide (t + d ≤ m) = false := by simp; grind
      rw [e]
  | @step n t i l p0 d j i1 l1 t2 i2 l2 ok hd hle hn hb r ih =>
    intro f p a b hf okp
    have e0 : p = p0 := Option.some.inj (okp.hp.symm.trans ok.hp)
    subst e0
    obtain ⟨f, rfl⟩ : ∃ g, f = g + 1 := ⟨f - 1, by omega⟩
    obtain ⟨p1, ok1⟩ := r.first
    obtain ⟨a1, b1, hb1⟩ := lb_ok k (a := a) (b := b) (x := x) (y := y) hz ok hd hn hb ok1
    obtain ⟨p2, a', b', ok2, hr⟩ := ih f p1 a1 b1 (by omega) ok1
    refine ⟨p2, a', b', ok2, ?_⟩
    rw [hd]
    refine loopW_more (S1 := []) ?_ hb1 hr
    show evalT G _ lq [some (phsD ps), some (lawD i l t (some (t + d))), some (frD m), a, b, x, y] [] = _
    rw [lq_some (ok.he d hd).2 hm]
    have e : decide (t + d ≤ m) = true := by simp; exact hle
    rw [e]
end K02
end
section
set_option linter.all false
set_option maxRecDepth 100000
set_option maxHeartbeats 2000000
set_option exponentiation.threshold 5000
set_option autoImplicit false
namespace K02
open KL
/-- the law's state in the store -/
def lawO (i : Nat) (l t : Rat) (e : Option Rat) : SO := .dS [[112, 104, 97, 115, 101], [108, 101, 118, 101, 108], [99, 108, 111, 99, 107], [101, 110, 100]] [.int i, frD l, frD t, optF e]
theorem idx_rphase (i : Nat) (l t : Rat) (e : Option Rat) (S : Store) : idxD (.ref 0) (.str [112, 104, 97, 115, 101]) (lawO i l t e :: S) = some (.int i) := nr rfl
theorem idx_rlevel (i : Nat) (l t : Rat) (e : Option Rat) (S : Store) : idxD (.ref 0) (.str [108, 101, 118, 101, 108]) (lawO i l t e :: S) = some (frD l) := nr rfl
theorem idx_rclock (i : Nat) (l t : Rat) (e : Option Rat) (S : Store) : idxD (.ref 0) (.str [99, 108, 111, 99, 107]) (lawO i l t e :: S) = some (frD t) := nr rfl
theorem set_level (i : Nat) (l t : Rat) (e : Option Rat) (v : Rat) : setItemD (.ref 0) (.str [108, 101, 118, 101, 108]) (frD v) [lawO i l t e] = some [lawO i v t e] := nr rfl
theorem set_clock (i : Nat) (l t : Rat) (e : Option Rat) (v : Rat) : setItemD (.ref 0) (.str [99, 108, 111, 99, 107]) (frD v) [lawO i l t e] = some [lawO i l v e] := nr rfl
theorem frz_ref (i : Nat) (l t : Rat) (e : Option Rat) : frzD (.ref 0) [lawO i l t e] = some (.ok (lawD i l t e) [.dead]) := nr rfl
theorem frz_law (i : Nat) (l t : Rat) (e : Option Rat) (S : Store) : frzD (lawD i l t e) S = some (.ok (lawD i l t e) S) := nr rfl
theorem copy_law {C : CallF} {ρ : Env} {i : Nat} {l t : Rat} {e : Option Rat} {A : ME} (h : evalE G C A ρ [] = some (.ok (lawD i l t e) [])) : evalE G C (.copyS A) ρ [] = some (.ok (.ref 0) [lawO i l t e]) := by
  rw [evalE_copyS, h, bnd_okS]
  exact nr rfl
theorem lt_ev {C : CallF} {A B : ME} {ρ : Env} {S : Store} {p : Rat} {g : Nat} (ha : evalE G C A ρ S = some (.ok (frD p) S)) (hb : evalE G C B ρ S = some (.ok (.int g) S)) (hp : Sm p) (hg : Sm (g : Rat)) :
    evalE G C (.cmp .lt (.idx A (.int 0)) (.bin .mul B (.idx A (.int 1)))) ρ S = some (.ok (.bl (decide (p < (g : Rat)))) S) := by
  have hg2 : Smi (g : Int) := by have := smi_num hg; rwa [Rat.num_natCast] at this
  have e2 := mul_ev hb (part_ev ha).2 (mulOk_of hg2 (smi_den hp))
  have e : decide (p < (g : Rat)) = decide (p.num < (g : Int) * p.den) := by
    rw [decide_eq_decide, Rat.lt_iff, Rat.num_natCast, Rat.den_natCast]; simp
  rw [evalE_cmp, (part_ev ha).1, bnd_okS, e2, bnd_okS, cmp_lt, e]; rfl
theorem ex_nx {C : CallF} {s : MS} {ss : List MS} {ρ ρ' : Env} {S S' : Store} {x : Option SR} (h : exec G C s ρ S = some (.nx ρ' S')) (r : execs G C ss ρ' S' = x) : execs G C (s :: ss) ρ S = x := by
  rw [execs_cons, h]; exact r
theorem ex_if {C : CallF} {q : MQ} {a b ss : List MS} {ρ : Env} {S S1 : Store} {d : D} {S2 : Store} (h : evalT G C q ρ S = some (.ok true S1)) (r : execs G C (a ++ ss) ρ S1 = some (.ret d S2)) : execs G C (.ifS q a b :: ss) ρ S = some (.ret d S2) := by
  rw [execs_cons, exec_if, h, bndS_okS, if_pos rfl]
  have key : ∀ (a : List MS) (ρ : Env) (S1 : Store), execs G C (a ++ ss) ρ S1 = some (.ret d S2) → (match execs G C a ρ S1 with
      | some (.nx ρ' S') => execs G C ss ρ' S'
      | r => r) = some (.ret d S2) := by
    intro a
    induction a with
    | nil => intro ρ S1 h; exact h
    | cons x xs ih =>
      intro ρ S1 h
      rw [List.cons_append, execs_cons] at h
      rw [execs_cons]
      cases hx : exec G C x ρ S1 with
      | none => rw [hx] at h; cases h
      | some r =>
        rw [hx] at h
        cases r with
        | nx ρ' S' => exact ih ρ' S' h
        | ret d S => exact h
        | brk ρ S => cases h
        | ct ρ S => cases h
        | exc c p ρ S => cases h
  exact key a ρ S1 r
theorem fin_ev {C : CallF} {i : Nat} {l t : Rat} {E : Option Rat} (a : Option D) (ρ : Env) : execs G C [.ret (.frz (.var 1))] (a :: some (.ref 0) :: ρ) [lawO i l t E] = some (.ret (lawD i l t E) [.dead]) := nr rfl
theorem call3_ev {C : CallF} {f : Nat} {A B E : ME} {ρ : Env} {S : Store} {x y z r : D} (ha : evalE G C A ρ S = some (.ok x S)) (hb : evalE G C B ρ S = some (.ok y S)) (hc : evalE G C E ρ S = some (.ok z S)) (h : C f [x, y, z] S = some (.ok r S)) :
    evalE G C (.call f [A, B, E]) ρ S = some (.ok r S) := by
  simp only [evalE_call, evalEs_cons, evalEs_nil, ha, hb, hc, bnd_okS, ok_def, h]
theorem tup2_ev {C : CallF} {A B : ME} {ρ : Env} {S : Store} {x y : D} (ha : evalE G C A ρ S = some (.ok x S)) (hb : evalE G C B ρ S = some (.ok y S)) :
    evalE G C (.tup [A, B]) ρ S = some (.ok (.tup [x, y]) S) := by
  simp only [evalE_tup, evalEs_cons, evalEs_nil, ha, hb, bnd_okS, ok_def]
theorem led_ok (k : Nat) {ps : List Ph} {z : Nat} {m : Rat} (hz : z ≤ bigN) (hm : Sm m) {n : Nat} {t l t2 l2 : Rat} {i i2 : Nat} {p p2 : Ph} (h : Led ps z m n t i l t2 i2 l2) (hn : n < bigN) (ok : OkS ps m t i l p) (ok2 : OkS ps m t2 i2 l2 p2) :
    ∃ t3, ∀ S, callK G T (k + 5) i_law_led [phsD ps, lawD i l t ((p.dur l).map (t + ·)), frD m] S = some (.ok (lawD i2 (p2.lev l2 (m - t2)) t3 ((p2.dur l2).map (t2 + ·))) S) := by
  obtain ⟨p3, a, b, ok3, e⟩ := led_loop k hz hm none none h bigN p none none hn ok
  have e0 : p3 = p2 := Option.some.inj (ok3.hp.symm.trans ok2.hp)
  subst e0
  have hi := idx_phs ok2.hp
  have key : ∃ t3 S1, execs G (callK G T (k + 4)) (m_law_led.body.drop 1) [some (phsD ps), some (lawD i2 l2 t2 ((p3.dur l2).map (t2 + ·))), some (frD m), a, b, none, none] [] = some (.ret (lawD i2 (p3.lev l2 (m - t2)) t3 ((p3.dur l2).map (t2 + ·))) S1) := by
    cases p3 with
    | stay => exact ⟨t2, [], by simp [m_law_led, idx_lphase, notN_int, hi, idx_word, Ph.word, frz_law, Ph.lev]⟩
    | hold s n => exact ⟨t2, [], by simp [m_law_led, idx_lphase, notN_int, hi, idx_word, Ph.word, frz_law, Ph.lev]⟩
    | jump g n => exact ⟨t2, [], by simp [m_law_led, idx_lphase, notN_int, hi, idx_word, Ph.word, frz_law, Ph.lev]⟩
    | go g r n =>
      obtain ⟨h1, h2, h3, h4, h5, h6, h7⟩ := ok2.hg g r n rfl
      have ig : ∀ S, idxD (phD (.go g r n)) (.int 1) S = some (.int g) := fun _ => nr rfl
      have ir : ∀ S, idxD (phD (.go g r n)) (.int 2) S = some (.int r) := fun _ => nr rfl
      have one' : lgt (Int.natAbs (-1)) 1000 := Nat.one_lt_two_pow (by decide)
      have e1 : callK G T (k + 4) i_law_sum [frD m, frD t2, .int (-1)] [lawO i2 l2 t2 (((Ph.go g r n).dur l2).map (t2 + ·))] = some (.ok (frD (m - t2)) [lawO i2 l2 t2 (((Ph.go g r n).dur l2).map (t2 + ·))]) := by
        have := law_sum_ok (k + 2) [lawO i2 l2 t2 (((Ph.go g r n).dur l2).map (t2 + ·))] m t2 (-1) hm ok2.st one'
        have e2 : m + ((-1 : Int) : Rat) * t2 = m - t2 := by grind
        rwa [e2] at this
      refine ⟨m, [.dead], ?_⟩
      generalize ((Ph.go g r n).dur l2).map (t2 + ·) = E at *
      have q1 : sgn l2 g = if l2 < (g : Rat) then 1 else -1 := rfl
      have sg1 : lgt (sgn l2 g).natAbs 1000 := by unfold sgn; split <;> exact Nat.one_lt_two_pow (by decide)
      have hr : Smi (r : Int) := by unfold Smi; rw [Int.natAbs_natCast]; exact lgt_mono h5 (by decide)
      have hk : mulOk (sgn l2 g) (r : Int) = true := mulOk_of (lgt_mono sg1 (by decide)) hr
      have hsr : lgt (sgn l2 g * (r : Int)).natAbs 1000 := by
        unfold sgn
        split
        · rw [Int.one_mul, Int.natAbs_natCast]; exact h5
        · rw [Int.neg_mul, Int.one_mul, Int.natAbs_neg, Int.natAbs_natCast]; exact h5
      have e3 := law_sum_ok (k + 2) [lawO i2 l2 t2 E] l2 (m - t2) (sgn l2 g * (r : Int)) ok2.sl ok2.sd hsr
      have e4 : l2 + ((sgn l2 g * (r : Int) : Int) : Rat) * (m - t2) = l2 + (m - t2) * ((sgn l2 g * (r : Int) : Int) : Rat) := by grind
      rw [e4] at e3
      have e5 : evalE G (callK G T (k + 4)) (.cmp .lt (.idx (.idx (.var 1) (.str [108, 101, 118, 101, 108])) (.int 0)) (.bin .mul (.idx (.var 3) (.int 1)) (.idx (.idx (.var 1) (.str [108, 101, 118, 101, 108])) (.int 1)))) [some (phsD ps), some (.ref 0), some (frD m), some (phD (.go g r n)), b, none, none] [lawO i2 l2 t2 E] = some (.ok (.bl (decide (l2 < (g : Rat)))) [lawO i2 l2 t2 E]) :=
        lt_ev (by simp [idx_rlevel]) (by simp [ig]) ok2.sl h1
      have e6 : evalE G (callK G T (k + 4)) (.copyS (.var 1)) [some (phsD ps), some (lawD i2 l2 t2 E), some (frD m), a, b, none, none] [] = some (.ok (.ref 0) [lawO i2 l2 t2 E]) := copy_law (by simp)
      have ev1 : exec G (callK G T (k + 4)) (.asg (.tup [.name 3, .name 1]) (.tup [.idx (.var 0) (.idx (.var 1) (.str [112, 104, 97, 115, 101])), .copyS (.var 1)])) [some (phsD ps), some (lawD i2 l2 t2 E), some (frD m), a, b, none, none] [] = some (.nx [some (phsD ps), some (.ref 0), some (frD m), some (phD (.go g r n)), b, none, none] [lawO i2 l2 t2 E]) := by
        have e7 : evalE G (callK G T (k + 4)) (.idx (.var 0) (.idx (.var 1) (.str [112, 104, 97, 115, 101]))) [some (phsD ps), some (lawD i2 l2 t2 E), some (frD m), a, b, none, none] [] = some (.ok (phD (.go g r n)) []) := by
          simp [idx_lphase, hi]
        rw [exec_asg, evalE_tup, evalEs_cons, e7, bnd_okS, evalEs_cons, e6]
        simp
      have ev2 : exec G (callK G T (k + 4)) (.asg (.name 5) (.ife (.v (.cmp .lt (.idx (.idx (.var 1) (.str [108, 101, 118, 101, 108])) (.int 0)) (.bin .mul (.idx (.var 3) (.int 1)) (.idx (.idx (.var 1) (.str [108, 101, 118, 101, 108])) (.int 1))))) (.int 1) (.neg (.int 1)))) [some (phsD ps), some (.ref 0), some (frD m), some (phD (.go g r n)), b, none, none] [lawO i2 l2 t2 E] = some (.nx [some (phsD ps), some (.ref 0), some (frD m), some (phD (.go g r n)), b, some (.int (sgn l2 g)), none] [lawO i2 l2 t2 E]) := by
        rw [exec_asg, evalE_ife, evalT_v, e5, q1]
        by_cases hlt : l2 < (g : Rat) <;> simp [hlt]
      have ev3 : exec G (callK G T (k + 4)) (.asg (.name 6) (.call i_law_sum [.var 2, .idx (.var 1) (.str [99, 108, 111, 99, 107]), .neg (.int 1)])) [some (phsD ps), some (.ref 0), some (frD m), some (phD (.go g r n)), b, some (.int (sgn l2 g)), none] [lawO i2 l2 t2 E] = some (.nx [some (phsD ps), some (.ref 0), some (frD m), some (phD (.go g r n)), b, some (.int (sgn l2 g)), some (frD (m - t2))] [lawO i2 l2 t2 E]) := by
        simp [idx_rclock, e1]
      have ev4 : exec G (callK G T (k + 4)) (.asg (.tup [.sub (.var 1) (.str [108, 101, 118, 101, 108]), .sub (.var 1) (.str [99, 108, 111, 99, 107])]) (.tup [.call i_law_sum [.idx (.var 1) (.str [108, 101, 118, 101, 108]), .var 6, .bin .mul (.var 5) (.idx (.var 3) (.int 2))], .var 2])) [some (phsD ps), some (.ref 0), some (frD m), some (phD (.go g r n)), b, some (.int (sgn l2 g)), some (frD (m - t2))] [lawO i2 l2 t2 E] = some (.nx [some (phsD ps), some (.ref 0), some (frD m), some (phD (.go g r n)), b, some (.int (sgn l2 g)), some (frD (m - t2))] [lawO i2 (l2 + (m - t2) * ((sgn l2 g * (r : Int) : Int) : Rat)) m E]) := by
        have e8 : evalE G (callK G T (k + 4)) (.bin .mul (.var 5) (.idx (.var 3) (.int 2))) [some (phsD ps), some (.ref 0), some (frD m), some (phD (.go g r n)), b, some (.int (sgn l2 g)), some (frD (m - t2))] [lawO i2 l2 t2 E] = some (.ok (.int (sgn l2 g * (r : Int))) [lawO i2 l2 t2 E]) := mul_ev (by simp) (by simp [ir]) hk
        have e9 := call3_ev (f := i_law_sum) (A := .idx (.var 1) (.str [108, 101, 118, 101, 108])) (B := .var 6) (C := callK G T (k + 4)) (ρ := [some (phsD ps), some (.ref 0), some (frD m), some (phD (.go g r n)), b, some (.int (sgn l2 g)), some (frD (m - t2))]) (S := [lawO i2 l2 t2 E]) (x := frD l2) (y := frD (m - t2)) (by simp [idx_rlevel]) (by simp) e8 e3
        rw [exec_asg, tup2_ev e9 (show evalE G (callK G T (k + 4)) (.var 2) _ _ = some (.ok (frD m) _) from by simp)]
        simp [set_level, set_clock]
      have ev5 : evalT G (callK G T (k + 4)) (.and [.v (.cmp .notN (.idx (.var 1) (.str [112, 104, 97, 115, 101])) (.non)), .v (.cmp .eq (.idx (.idx (.var 0) (.idx (.var 1) (.str [112, 104, 97, 115, 101]))) (.int 0)) (.str [103, 111]))]) [some (phsD ps), some (lawD i2 l2 t2 E), some (frD m), a, b, none, none] [] = some (.ok true []) := by
        simp [idx_lphase, notN_int, hi, idx_word, Ph.word]
      show execs G (callK G T (k + 4)) (.ifS (.and [.v (.cmp .notN (.idx (.var 1) (.str [112, 104, 97, 115, 101])) (.non)), .v (.cmp .eq (.idx (.idx (.var 0) (.idx (.var 1) (.str [112, 104, 97, 115, 101]))) (.int 0)) (.str [103, 111]))]) [_, _, _, _] [] :: [.ret (.frz (.var 1))]) _ _ = _
      refine ex_if ev5 (ex_nx ev1 (ex_nx ev2 (ex_nx ev3 (ex_nx ev4 ?_))))
      exact fin_ev _ _
  obtain ⟨t3, S1, hk⟩ := key
  refine ⟨t3, fun S => ?_⟩
  refine call_pure (d := m_law_led) rfl rfl rfl (by simp [pure_fr, pure_phs, pure_lawD]) (pure_lawD ..) (S1 := S1) (run_ret ?_)
  show execs G (callK G T (k + 4)) (.whl lq lb :: m_law_led.body.drop 1) [some (phsD ps), some (lawD i l t ((p.dur l).map (t + ·))), some (frD m), none, none, none, none] [] = _
  rw [execs_cons, exec_whl, e]
  exact hk
end K02
end
section
set_option linter.all false
set_option maxRecDepth 100000
set_option maxHeartbeats 2000000
set_option exponentiation.threshold 5000
set_option autoImplicit false
namespace K02
open KL
/-- K is a grid of q -/
def Gr (K : Nat) (q : Rat) : Prop := ∃ z : Int, q * (K : Rat) = z
theorem Gr.nat (K n : Nat) : Gr K (n : Rat) := ⟨(n * K : Nat), by rw [← Rat.natCast_mul, Rat.intCast_natCast]⟩
theorem Gr.add {K : Nat} {p q : Rat} (h : Gr K p) (h2 : Gr K q) : Gr K (p + q) := by
  obtain ⟨x, hx⟩ := h; obtain ⟨y, hy⟩ := h2
  exact ⟨x + y, by rw [Rat.intCast_add]; grind⟩
theorem Gr.neg {K : Nat} {p : Rat} (h : Gr K p) : Gr K (-p) := by
  obtain ⟨x, hx⟩ := h
  exact ⟨-x, by rw [Rat.intCast_neg]; grind⟩
theorem Gr.sub {K : Nat} {p q : Rat} (h : Gr K p) (h2 : Gr K q) : Gr K (p - q) := by
  have := h.add h2.neg
  have e : p + -q = p - q := by grind
  rwa [e] at this
theorem Gr.mulI {K : Nat} {p : Rat} (h : Gr K p) (n : Int) : Gr K (p * (n : Rat)) := by
  obtain ⟨x, hx⟩ := h
  exact ⟨x * n, by rw [Rat.intCast_mul]; grind⟩
theorem Gr.up {K : Nat} {p : Rat} (h : Gr K p) (n : Nat) : Gr (n * K) p := by
  obtain ⟨x, hx⟩ := h
  exact ⟨n * x, by rw [Rat.natCast_mul, Rat.intCast_mul, Rat.intCast_natCast]; grind⟩
theorem Gr.div {K : Nat} {p : Rat} (h : Gr K p) {n : Nat} (hn : 0 < n) : Gr (n * K) (p / (n : Rat)) := by
  obtain ⟨x, hx⟩ := h
  have h3 : (n : Rat) ≠ 0 := by simpa using (show n ≠ 0 by omega)
  exact ⟨x, by rw [Rat.natCast_mul]; grind⟩
/-- by a rate -/
theorem Gr.rate {K : Nat} {p : Rat} (h : Gr K p) {n : Nat} (hn : 0 < n) (h6 : n ≤ 6) : Gr (60 * K) (p / (n : Rat)) := by
  obtain ⟨c, hc⟩ : ∃ c, 60 = c * n := by
    have : n = 1 ∨ n = 2 ∨ n = 3 ∨ n = 4 ∨ n = 5 ∨ n = 6 := by omega
    rcases this with rfl | rfl | rfl | rfl | rfl | rfl
    · exact ⟨60, rfl⟩
    · exact ⟨30, rfl⟩
    · exact ⟨20, rfl⟩
    · exact ⟨15, rfl⟩
    · exact ⟨12, rfl⟩
    · exact ⟨10, rfl⟩
  rw [hc, Nat.mul_assoc]
  exact (h.div hn).up c
theorem absR_or (q : Rat) : (absR q = q ∧ 0 ≤ q) ∨ (absR q = -q ∧ q < 0) := by
  unfold absR
  by_cases h : q.num < 0
  · right; rw [if_pos h]
    refine ⟨rfl, ?_⟩
    have : ¬ (0 ≤ q) := by rw [← Rat.num_nonneg]; omega
    grind
  · left; rw [if_neg h]
    exact ⟨rfl, by rw [← Rat.num_nonneg]; omega⟩
theorem Gr.abs {K : Nat} {p : Rat} (h : Gr K p) : Gr K (absR p) := by
  rcases absR_or p with h1 | h1
  · rw [h1.1]; exact h
  · rw [h1.1]; exact h.neg
theorem sm_of {K : Nat} {q : Rat} (hK : 0 < K) (hk : lgt K 900) (h : Gr K q) (b1 : -1000 ≤ q) (b2 : q ≤ 1000) : Sm q := by
  obtain ⟨z, hz⟩ := h
  have hK2 : (K : Rat) ≠ 0 := by simpa using (show K ≠ 0 by omega)
  have e : q = mkRat z K := by
    rw [Rat.mkRat_eq_div]; grind
  have hd : q.den ≤ K := by
    rw [e, Rat.den_mkRat, if_neg (by omega)]
    exact Nat.div_le_self _ _
  have hd0 : (q.den : Rat) ≠ 0 := by have := q.den_nz; simpa using this
  have hd1 : (0 : Rat) < (q.den : Rat) := by
    have := q.den_pos
    have h2 : ((0 : Nat) : Rat) < (q.den : Rat) := by rw [Rat.natCast_lt_natCast]; exact this
    simpa using h2
  have hn : (q.num : Rat) = q * (q.den : Rat) := by
    have h1 : (q.num : Rat) / (q.den : Rat) = q := by rw [← Rat.mkRat_eq_div, Rat.mkRat_self]
    grind
  have hn2 : q.num.natAbs ≤ 1000 * K := by
    have u1 : (q.num : Rat) ≤ ((1000 * q.den : Nat) : Rat) := by
      rw [hn, Rat.natCast_mul]
      have := Rat.mul_le_mul_of_nonneg_right b2 (by grind : (0 : Rat) ≤ q.den)
      simpa using this
    have u2 : ((-(1000 * q.den : Nat) : Int) : Rat) ≤ (q.num : Rat) := by
      rw [hn, Rat.intCast_neg, Rat.intCast_natCast, Rat.natCast_mul]
      have := Rat.mul_le_mul_of_nonneg_right b1 (by grind : (0 : Rat) ≤ q.den)
      have e : -(((1000 : Nat) : Rat) * (q.den : Rat)) = -1000 * (q.den : Rat) := by
        have : ((1000 : Nat) : Rat) = 1000 := rfl
        rw [this]; grind
      rw [e]; exact this
    rw [← Rat.intCast_natCast, Rat.intCast_le_intCast] at u1
    rw [Rat.intCast_le_intCast] at u2
    omega
  refine ⟨lgt_mono (lgt_le hk hd) (by decide), ?_⟩
  have h1 : lgt (1000 * K) (10 + 900) := lgt_mul (by unfold lgt; decide) hk
  exact lgt_mono (lgt_le h1 hn2) (by decide)
end K02
end
section
set_option linter.all false
set_option maxRecDepth 100000
set_option maxHeartbeats 2000000
set_option exponentiation.threshold 5000
set_option autoImplicit false
namespace K02
open KL
/-- a phase among n -/
def gph (n : Nat) : Ph → Prop
  | .go g r j => g ≤ 12 ∧ 1 ≤ r ∧ r ≤ 6 ∧ j < n
  | .hold s j => 1 ≤ s ∧ s ≤ 8 ∧ j < n
  | .jump g j => g ≤ 12 ∧ j < n
  | .stay => True
/-- phases of which all are good, and that go on in time -/
structure GoodP (ps : List Ph) (z : Nat) : Prop where
  gp : ∀ (i : Nat) (p : Ph), ps[i]? = some p → gph ps.length p
  nz : ∀ (i : Nat) (l : Rat), i < ps.length → ∃ j l', begN ps z i l = some (j, l')
theorem natR {a b : Nat} (h : a ≤ b) : (a : Rat) ≤ (b : Rat) := by rw [Rat.natCast_le_natCast]; exact h
theorem nat0 (a : Nat) : (0 : Rat) ≤ (a : Rat) := by have := natR (Nat.zero_le a); simpa using this
theorem nat12 {a : Nat} (h : a ≤ 12) : (a : Rat) ≤ 12 := by have := natR h; simpa using this
/-- how far from whole a level is -/
def Wh (w : Nat) (l : Rat) : Prop := w = 1 ∨ (w = 0 ∧ ∃ g : Nat, l = (g : Rat))
theorem Wh.nat (w : Nat) (h : w ≤ 1) (g : Nat) : Wh w (g : Rat) := by
  unfold Wh
  by_cases e : w = 1
  · left; exact e
  · right; exact ⟨by omega, g, rfl⟩
theorem begN_keep {ps : List Ph} {P : Rat → Prop} (gp : ∀ (i : Nat) (p : Ph), ps[i]? = some p → gph ps.length p) (hP : ∀ g : Nat, g ≤ 12 → P (g : Rat)) : ∀ {n i : Nat} {l : Rat} {j : Nat} {l' : Rat}, begN ps n i l = some (j, l') → P l → P l'
  | 0, i, l, j, l', h, _ => by simp [begN] at h
  | n + 1, i, l, j, l', h, hl => by
    unfold begN at h
    cases hp : ps[i]? with
    | none => rw [hp] at h; cases h
    | some p =>
      rw [hp] at h
      dsimp only at h
      have hg := gp i p hp
      cases hz : p.zero l with
      | none => rw [hz] at h; cases h; exact hl
      | some q =>
        obtain ⟨g, m⟩ := q
        rw [hz] at h
        refine begN_keep gp hP h (hP g ?_)
        cases p with
        | stay => cases hz
        | hold s n => cases hz
        | jump g' n => cases hz; exact hg.1
        | go g' r n =>
          by_cases e : l = (g' : Rat)
          · simp only [Ph.zero, if_pos e] at hz; cases hz; exact hg.1
          · simp only [Ph.zero, if_neg e] at hz; cases hz
/-- a state of which the numbers are on a grid -/
structure Inv (ps : List Ph) (L : Nat) (t : Rat) (i : Nat) (l : Rat) (p : Ph) : Prop where
  hp : ps[i]? = some p
  hz : p.zero l = none
  gp : gph ps.length p
  gt : Gr (60 * L) t
  gl : Gr L l
  t0 : 0 ≤ t
  l0 : 0 ≤ l
  l1 : l ≤ 12
theorem divR {x : Rat} (h : 0 ≤ x) (h12 : x ≤ 12) {r : Nat} (h1 : 1 ≤ r) : 0 ≤ x / (r : Rat) ∧ x / (r : Rat) ≤ 12 := by
  have hr : (1 : Rat) ≤ (r : Rat) := by have := natR h1; simpa using this
  have h0 : (0 : Rat) < (r : Rat) := by grind
  constructor
  · rw [Rat.div_def]
    exact Rat.mul_nonneg h (Rat.le_of_lt (Rat.inv_pos.2 h0))
  · rw [Rat.div_def]
    have hi := Rat.inv_pos.2 h0
    have hc : (r : Rat) * (r : Rat)⁻¹ = 1 := Rat.mul_inv_cancel _ (by grind)
    have h2 := Rat.mul_le_mul_of_nonneg_right h12 (Rat.le_of_lt hi)
    have h3 := Rat.mul_le_mul_of_nonneg_right hr (Rat.le_of_lt hi)
    grind
theorem Inv.dur {ps : List Ph} {L : Nat} {t : Rat} {i : Nat} {l : Rat} {p : Ph} (iv : Inv ps L t i l p) {d : Rat} (hd : p.dur l = some d) : Gr (60 * L) d ∧ 0 < d ∧ d ≤ 12 := by
  have gp := iv.gp
  have hz := iv.hz
  cases p with
  | stay => cases hd
  | jump g n => cases hd
  | hold s n =>
    cases hd
    have h1 : ((1 : Nat) : Rat) ≤ (s : Rat) := natR gp.1
    have h2 : (s : Rat) ≤ ((8 : Nat) : Rat) := natR gp.2.1
    refine ⟨Gr.nat _ _, ?_, ?_⟩
    · have e : ((1 : Nat) : Rat) = 1 := rfl
      grind
    · have e : ((8 : Nat) : Rat) = 8 := rfl
      grind
  | go g r n =>
    cases hd
    obtain ⟨g1, g2, g3, g4⟩ := gp
    have hne : l ≠ (g : Rat) := by
      intro e
      simp [Ph.zero, e] at hz
    have hg := nat12 g1
    have hg0 := nat0 g
    have l0 := iv.l0
    have l1 := iv.l1
    have ha : 0 < absR (l - (g : Rat)) ∧ absR (l - (g : Rat)) ≤ 12 := by
      rcases absR_or (l - (g : Rat)) with h | h
      · rw [h.1]; constructor <;> grind
      · rw [h.1]; constructor <;> grind
    refine ⟨((iv.gl.sub (Gr.nat L g)).abs).rate g2 g3, ?_, (divR (by grind) ha.2 g2).2⟩
    have hr : (0 : Rat) < (r : Rat) := by have := natR g2; have e : ((1 : Nat) : Rat) = 1 := rfl; grind
    rw [Rat.div_def]
    exact Rat.mul_pos ha.1 (Rat.inv_pos.2 hr)
theorem lgt6 {L : Nat} (hk : lgt L 800) : lgt (60 * L) 900 := lgt_mono (lgt_mul (show lgt 60 6 by unfold lgt; decide) hk) (by decide)
theorem sgnR (l : Rat) (g r : Nat) : ((sgn l g * (r : Int) : Int) : Rat) = (r : Rat) ∨ ((sgn l g * (r : Int) : Int) : Rat) = -(r : Rat) := by
  unfold sgn
  split
  · left; rw [Int.one_mul, Rat.intCast_natCast]
  · right; rw [Int.neg_mul, Int.one_mul, Rat.intCast_neg, Rat.intCast_natCast]
theorem Inv.ok {ps : List Ph} {L : Nat} {t : Rat} {i : Nat} {l : Rat} {p : Ph} (iv : Inv ps L t i l p) {m : Rat} (hL : 0 < L) (hk : lgt L 800) (gm : Gr (60 * L) m) (hm : t ≤ m) (hm2 : m ≤ 100) : OkS ps m t i l p := by
  have K0 : 0 < 60 * L := by omega
  have K1 := lgt6 hk
  have l0 := iv.l0
  have l1 := iv.l1
  have t0 := iv.t0
  have gl : Gr (60 * L) l := iv.gl.up 60
  refine ⟨iv.hp, iv.hz, sm_of K0 K1 iv.gt (by grind) (by grind), sm_of K0 K1 gl (by grind) (by grind), sm_of K0 K1 (gm.sub iv.gt) (by grind) (by grind), ?_, ?_, ?_⟩
  · intro s n e
    subst e
    have h := natR iv.gp.2.1
    have e : ((8 : Nat) : Rat) = 8 := rfl
    have := nat0 s
    exact sm_of K0 K1 (Gr.nat _ _) (by grind) (by grind)
  · intro g r n e
    subst e
    obtain ⟨g1, g2, g3, g4⟩ := iv.gp
    have hg := nat12 g1
    have hg0 := nat0 g
    have gd : Gr (60 * L) (l - (g : Rat)) := gl.sub (Gr.nat _ _)
    have ha : 0 ≤ absR (l - (g : Rat)) ∧ absR (l - (g : Rat)) ≤ 12 := by
      rcases absR_or (l - (g : Rat)) with h | h
      · rw [h.1]; constructor <;> grind
      · rw [h.1]; constructor <;> grind
    have hdv := divR ha.1 ha.2 g2
    have hr : lgt r 1000 := lgt_le (m := 6) (lgt_mono (a := 3) (by unfold lgt; decide) (by decide)) g3
    have hr6 : (r : Rat) ≤ 6 := by have := natR g3; simpa using this
    have hr0 := nat0 r
    have u1 := Rat.mul_le_mul_of_nonneg_left hr6 (show 0 ≤ m - t by grind)
    have u2 := Rat.mul_nonneg (show 0 ≤ m - t by grind) hr0
    refine ⟨sm_of K0 K1 (Gr.nat _ _) (by grind) (by grind), sm_of K0 K1 gd (by grind) (by grind), sm_of K0 K1 gd.abs (by grind) (by grind), g2, hr, sm_of K0 K1 (((iv.gl.sub (Gr.nat L g)).abs).rate g2 g3) (by grind) (by grind), ?_⟩
    have gq := (gm.sub iv.gt).mulI (sgn l g * (r : Int))
    refine sm_of K0 K1 gq ?_ ?_ <;> rcases sgnR l g r with h | h <;> rw [h] <;> grind
  · intro d hd
    obtain ⟨d1, d2, d3⟩ := iv.dur hd
    exact ⟨sm_of K0 K1 d1 (by grind) (by grind), sm_of K0 K1 (iv.gt.add d1) (by grind) (by grind)⟩
/-- what a begun phase is -/
theorem inv_beg {ps : List Ph} {z L : Nat} (G : GoodP ps z) {i : Nat} {t l : Rat} {j : Nat} {l' : Rat} (h : begN ps z i l = some (j, l')) (gt : Gr (60 * L) t) (t0 : 0 ≤ t) (gl : Gr L l) (l0 : 0 ≤ l) (l1 : l ≤ 12) : ∃ p, Inv ps L t j l' p := by
  obtain ⟨p, hp, hz⟩ := begN_phase h
  have k := begN_keep (P := fun l => Gr L l ∧ 0 ≤ l ∧ l ≤ 12) G.gp (fun g hg => ⟨Gr.nat _ _, nat0 g, nat12 hg⟩) h ⟨gl, l0, l1⟩
  exact ⟨p, hp, hz, G.gp _ _ hp, gt, k.1, t0, k.2.1, k.2.2⟩
theorem wh_beg {ps : List Ph} {z : Nat} (G : GoodP ps z) {w i : Nat} {l : Rat} {j : Nat} {l' : Rat} (h : begN ps z i l = some (j, l')) (hw : w ≤ 1) (wl : Wh w l) : Wh w l' :=
  begN_keep G.gp (fun g _ => Wh.nat w hw g) h wl
/-- what comes when a phase's time is over -/
theorem Inv.after {ps : List Ph} {L : Nat} {t : Rat} {i : Nat} {l : Rat} {p : Ph} (iv : Inv ps L t i l p) : Gr L (p.after l) ∧ 0 ≤ p.after l ∧ p.after l ≤ 12 := by
  have gp := iv.gp
  cases p with
  | go g r n => exact ⟨Gr.nat _ _, nat0 g, nat12 gp.1⟩
  | hold s n => exact ⟨iv.gl, iv.l0, iv.l1⟩
  | jump g n => exact ⟨iv.gl, iv.l0, iv.l1⟩
  | stay => exact ⟨iv.gl, iv.l0, iv.l1⟩
theorem Inv.next {ps : List Ph} {L : Nat} {t : Rat} {i : Nat} {l : Rat} {p : Ph} (iv : Inv ps L t i l p) {d : Rat} (hd : p.dur l = some d) : ∃ j, p.next = some j ∧ j < ps.length := by
  have gp := iv.gp
  cases p with
  | go g r n => exact ⟨n, rfl, gp.2.2.2⟩
  | hold s n => exact ⟨n, rfl, gp.2.2⟩
  | jump g n => cases hd
  | stay => cases hd
/-- a phase takes a while -/
theorem Inv.while_ {ps : List Ph} {L : Nat} {t : Rat} {i : Nat} {l : Rat} {p : Ph} (iv : Inv ps L t i l p) {w : Nat} (hw : Wh w l) {d : Rat} (hd : p.dur l = some d) : ∃ w', w' ≤ 1 ∧ Wh w' (p.after l) ∧ (w' : Rat) + 1 ≤ 6 * d + (w : Rat) := by
  have gp := iv.gp
  have hz := iv.hz
  have e1 : ((1 : Nat) : Rat) = 1 := rfl
  have e0 : ((0 : Nat) : Rat) = 0 := rfl
  have hw1 : w ≤ 1 := by rcases hw with h | h <;> omega
  cases p with
  | stay => cases hd
  | jump g n => cases hd
  | hold s n =>
    cases hd
    have h1 : ((1 : Nat) : Rat) ≤ (s : Rat) := natR gp.1
    exact ⟨w, hw1, hw, by grind⟩
  | go g r n =>
    have hpos := (iv.dur hd).2.1
    refine ⟨0, by omega, Wh.nat 0 (by omega) g, ?_⟩
    rcases hw with h | ⟨h, a, ha⟩
    · subst h; rw [e1, e0]; grind
    · subst h
      cases hd
      obtain ⟨g1, g2, g3, g4⟩ := gp
      have hne : l ≠ (g : Rat) := by
        intro e
        simp [Ph.zero, e] at hz
      have hag : a ≠ g := by intro e; rw [ha, e] at hne; exact hne rfl
      have hone : 1 ≤ absR (l - (g : Rat)) := by
        rcases Nat.lt_or_gt_of_ne hag with h | h
        · have := natR (show a + 1 ≤ g from h)
          rw [Rat.natCast_add, e1] at this
          rcases absR_or (l - (g : Rat)) with h | h <;> rw [h.1] <;> grind
        · have := natR (show g + 1 ≤ a from h)
          rw [Rat.natCast_add, e1] at this
          rcases absR_or (l - (g : Rat)) with h | h <;> rw [h.1] <;> grind
      have hr : (0 : Rat) < (r : Rat) := by have := natR g2; grind
      have hr6 : (r : Rat) ≤ 6 := by have := natR g3; simpa using this
      have k : 1 / 6 ≤ absR (l - (g : Rat)) / (r : Rat) := by
        rw [Rat.div_def]
        have hi := Rat.inv_pos.2 hr
        have hc : (r : Rat) * (r : Rat)⁻¹ = 1 := Rat.mul_inv_cancel _ (by grind)
        have h2 := Rat.mul_le_mul_of_nonneg_right hone (Rat.le_of_lt hi)
        have h3 := Rat.mul_le_mul_of_nonneg_right hr6 (Rat.le_of_lt hi)
        grind
      rw [e0]; grind
end K02
end
section
set_option linter.all false
set_option maxRecDepth 100000
set_option maxHeartbeats 2000000
set_option exponentiation.threshold 5000
set_option autoImplicit false
namespace K02
open KL
/-- one phase later: it takes d -/
structure Stp (ps : List Ph) (z i : Nat) (l d : Rat) (i1 : Nat) (l1 : Rat) : Prop where
  ex : ∃ p j, ps[i]? = some p ∧ p.dur l = some d ∧ p.next = some j ∧ begN ps z j (p.after l) = some (i1, l1)
/-- from phase i at level l to the phase in which the time r is over -/
inductive Fin (ps : List Ph) (z : Nat) : Nat → Rat → Rat → Nat → Rat → Rat → Prop
  | rest {i : Nat} {l r : Rat} {p : Ph} (hp : ps[i]? = some p) (h : ∀ d, p.dur l = some d → r < d) : Fin ps z i l r i l r
  | step {i : Nat} {l r d : Rat} {i1 : Nat} {l1 : Rat} {i2 : Nat} {l2 r2 : Rat} (s : Stp ps z i l d i1 l1) (hd : d ≤ r) (h : Fin ps z i1 l1 (r - d) i2 l2 r2) : Fin ps z i l r i2 l2 r2
theorem Stp.det {ps : List Ph} {z i : Nat} {l d : Rat} {i1 : Nat} {l1 d' : Rat} {i2 : Nat} {l2 : Rat} (a : Stp ps z i l d i1 l1) (b : Stp ps z i l d' i2 l2) : d = d' ∧ i1 = i2 ∧ l1 = l2 := by
  obtain ⟨p, j, h1, h2, h3, h4⟩ := a.ex
  obtain ⟨p', j', g1, g2, g3, g4⟩ := b.ex
  have e := Option.some.inj (h1.symm.trans g1)
  subst e
  have e := Option.some.inj (h2.symm.trans g2)
  subst e
  have e := Option.some.inj (h3.symm.trans g3)
  subst e
  have e := Option.some.inj (h4.symm.trans g4)
  cases e
  exact ⟨rfl, rfl, rfl⟩
theorem Fin.det {ps : List Ph} {z i : Nat} {l r : Rat} {i2 : Nat} {l2 r2 : Rat} (a : Fin ps z i l r i2 l2 r2) : ∀ {i3 : Nat} {l3 r3 : Rat}, Fin ps z i l r i3 l3 r3 → i2 = i3 ∧ l2 = l3 ∧ r2 = r3 := by
  induction a with
  | rest hp h =>
    intro i3 l3 r3 b
    cases b with
    | rest _ _ => exact ⟨rfl, rfl, rfl⟩
    | step s hd _ =>
      obtain ⟨p', j, h1, h2, h3, h4⟩ := s.ex
      have e := Option.some.inj (h1.symm.trans hp)
      subst e
      have := h _ h2
      grind
  | step s hd h ih =>
    intro i3 l3 r3 b
    cases b with
    | rest hp hn =>
      obtain ⟨p', j, h1, h2, h3, h4⟩ := s.ex
      have e := Option.some.inj (h1.symm.trans hp)
      subst e
      have := hn _ h2
      grind
    | step s2 hd2 h2 =>
      obtain ⟨e1, e2, e3⟩ := s.det s2
      subst e1; subst e2; subst e3
      exact ih h2
/-- phases one after another that take the time x -/
inductive Path (ps : List Ph) (z : Nat) : Nat → Rat → Rat → Nat → Rat → Prop
  | refl {i : Nat} {l : Rat} : Path ps z i l 0 i l
  | snoc {i : Nat} {l x : Rat} {i1 : Nat} {l1 d : Rat} {i2 : Nat} {l2 : Rat} (h : Path ps z i l x i1 l1) (s : Stp ps z i1 l1 d i2 l2) (d0 : 0 < d) : Path ps z i l (x + d) i2 l2
theorem Path.nn {ps : List Ph} {z i : Nat} {l x : Rat} {i1 : Nat} {l1 : Rat} (h : Path ps z i l x i1 l1) : 0 ≤ x := by
  induction h with
  | refl => grind
  | snoc h s d0 ih => grind
theorem Fin.path {ps : List Ph} {z i : Nat} {l x : Rat} {i1 : Nat} {l1 : Rat} (h : Path ps z i l x i1 l1) : ∀ {r : Rat} {i2 : Nat} {l2 r2 : Rat}, x ≤ r → Fin ps z i1 l1 (r - x) i2 l2 r2 → Fin ps z i l r i2 l2 r2 := by
  induction h with
  | refl =>
    intro r i2 l2 r2 hx f
    have e : r - 0 = r := by grind
    rwa [e] at f
  | @snoc x i1 l1 d i2 l2 h s d0 ih =>
    intro r i3 l3 r3 hx f
    have e : r - (x + d) = r - x - d := by grind
    rw [e] at f
    exact ih (by grind) (.step s (by grind) f)
theorem Fin.ring {ps : List Ph} {z i : Nat} {l x : Rat} (h : Path ps z i l x i l) : ∀ (n : Nat) {r : Rat} {i2 : Nat} {l2 r2 : Rat}, (n : Rat) * x ≤ r → Fin ps z i l (r - (n : Rat) * x) i2 l2 r2 → Fin ps z i l r i2 l2 r2
  | 0, r, i2, l2, r2, hx, f => by
    have e : r - ((0 : Nat) : Rat) * x = r := by have e0 : ((0 : Nat) : Rat) = 0 := rfl
                                                 rw [e0]; grind
    rwa [e] at f
  | n + 1, r, i2, l2, r2, hx, f => by
    have e1 : ((n + 1 : Nat) : Rat) = (n : Rat) + 1 := by rw [Rat.natCast_add]; rfl
    rw [e1] at hx f
    have hn := nat0 n
    have h0 := h.nn
    have h1 := Rat.mul_nonneg hn h0
    refine Fin.path h (by grind) (Fin.ring h n (by grind) ?_)
    have e : r - ((n : Rat) + 1) * x = r - x - (n : Rat) * x := by grind
    rwa [e] at f
theorem Fin.le {ps : List Ph} {z i : Nat} {l r : Rat} {i2 : Nat} {l2 r2 : Rat} (h : Fin ps z i l r i2 l2 r2) : 0 ≤ r → 0 ≤ r2 := by
  induction h with
  | rest hp h => intro x; exact x
  | step s hd h ih => intro x; exact ih (by grind)
/-- the law's stepping: it ends -/
theorem led_ex {ps : List Ph} {z L : Nat} {m : Rat} (G : GoodP ps z) (hL : 0 < L) (hk : lgt L 800) (gm : Gr (60 * L) m) (hm2 : m ≤ 100) : ∀ (n : Nat) {w : Nat} {t : Rat} {i : Nat} {l : Rat} {p : Ph}, Inv ps L t i l p → Wh w l → t ≤ m → 6 * (m - t) + (w : Rat) < (n : Rat) →
    ∃ t2 i2 l2 p2, Led ps z m n t i l t2 i2 l2 ∧ Inv ps L t2 i2 l2 p2 ∧ t2 ≤ m ∧ Fin ps z i l (m - t) i2 l2 (m - t2)
  | 0, w, t, i, l, p, iv, hw, ht, hn => by
    have e0 : ((0 : Nat) : Rat) = 0 := rfl
    have := nat0 w
    grind
  | n + 1, w, t, i, l, p, iv, hw, ht, hn => by
    have ok := iv.ok hL hk gm ht hm2
    cases hd : p.dur l with
    | none => exact ⟨t, i, l, p, .rest ok (by rw [hd]; intro d h; cases h), iv, ht, .rest iv.hp (by rw [hd]; intro d h; cases h)⟩
    | some d =>
      by_cases hle : t + d ≤ m
      · obtain ⟨j, hn1, hj⟩ := iv.next hd
        obtain ⟨i1, l1, hb⟩ := G.nz j (p.after l) hj
        obtain ⟨a1, a2, a3⟩ := iv.after
        obtain ⟨b1, b2, b3⟩ := iv.dur hd
        have t0 := iv.t0
        obtain ⟨p1, iv1⟩ := inv_beg G hb (iv.gt.add b1) (by grind) a1 a2 a3
        obtain ⟨w', w1, w2, w3⟩ := iv.while_ hw hd
        have w4 := wh_beg G hb w1 w2
        have e1 : ((n + 1 : Nat) : Rat) = (n : Rat) + 1 := by rw [Rat.natCast_add]; rfl
        obtain ⟨t2, i2, l2, p2, q1, q2, q3, q4⟩ := led_ex G hL hk gm hm2 n iv1 w4 hle (by grind)
        have e : m - (t + d) = m - t - d := by grind
        rw [e] at q4
        exact ⟨t2, i2, l2, p2, .step ok hd hle hn1 hb q1, q2, q3, .step ⟨p, j, iv.hp, hd, hn1, hb⟩ (by grind) q4⟩
      · exact ⟨t, i, l, p, .rest ok (by rw [hd]; intro d' h; cases h; grind), iv, ht, .rest iv.hp (by rw [hd]; intro d' h; cases h; grind)⟩
end K02
end
section
set_option linter.all false
set_option maxRecDepth 100000
set_option maxHeartbeats 2000000
set_option exponentiation.threshold 5000
set_option autoImplicit false
namespace K02
open KL
/-- a key of what was seen -/
def kD (i : Nat) (l : Rat) : D := .tup [.int i, frD l]
abbrev Ent3 := Nat × Rat × Rat
def seenO (es : List Ent3) : SO := .dT (es.map fun e => kD e.1 e.2.1) (es.map fun e => frD e.2.2)
theorem eq_kD (i i' : Nat) (l l' : Rat) : eqN 20 (kD i l) (kD i' l') = some (decide (i = i' ∧ l = l')) := by
  have e : eqN 20 (kD i l) (kD i' l') = (match eqN 19 (.int (i : Int)) (.int (i' : Int)), (match eqN 19 (frD l) (frD l'), some true with
    | some a, some b => some (a && b)
    | _, _ => none) with
    | some a, some b => some (a && b)
    | _, _ => none) := rfl
  have e1 : eqN 19 (.int (i : Int)) (.int (i' : Int)) = some ((i : Int) == i') := rfl
  have e2 : eqN 19 (frD l) (frD l') = some (decide (l = l')) := by
    have e : eqN 19 (frD l) (frD l') = eqLs (eqN 18) [.int l.num, .int l.den] [.int l'.num, .int l'.den] := rfl
    have e1 : ∀ i j : Int, eqN 18 (.int i) (.int j) = some (i == j) := fun _ _ => rfl
    have e2 : eqLs (eqN 18) [.int l.num, .int (l.den : Int)] [.int l'.num, .int (l'.den : Int)] = some (decide (l.num = l'.num ∧ l.den = l'.den)) := by
      simp only [eqLs, e1]
      by_cases h : l.num = l'.num <;> by_cases h2 : l.den = l'.den <;> simp [h, h2, Int.natCast_inj]
    rw [e, e2]
    congr 1
    rw [decide_eq_decide]
    exact ⟨fun x => Rat.ext x.1 x.2, fun x => by subst x; exact ⟨rfl, rfl⟩⟩
  rw [e, e1, e2]
  by_cases h : i = i' <;> by_cases h2 : l = l' <;> simp [h, h2, Int.natCast_inj]
/-- where a state was seen -/
def fnd (i : Nat) (l : Rat) : List Ent3 → Option Nat
  | [] => none
  | e :: es => if e.1 = i ∧ e.2.1 = l then some 0 else (fnd i l es).map (· + 1)
theorem keyIx_fnd (i : Nat) (l : Rat) : ∀ es : List Ent3, keyIx (kD i l) (es.map fun e => kD e.1 e.2.1) = some (fnd i l es)
  | [] => rfl
  | e :: es => by
    have ih := keyIx_fnd i l es
    simp only [List.map_cons, keyIx, eq_kD, ih, fnd]
    by_cases h : e.1 = i ∧ e.2.1 = l
    · simp [h]
    · simp only [h, decide_false]
      cases fnd i l es <;> simp
theorem fnd_some {i : Nat} {l : Rat} : ∀ {es : List Ent3} {j : Nat}, fnd i l es = some j → ∃ t, es[j]? = some (i, l, t)
  | [], j, h => by cases h
  | e :: es, j, h => by
    unfold fnd at h
    by_cases c : e.1 = i ∧ e.2.1 = l
    · rw [if_pos c] at h
      cases h
      obtain ⟨a, b, t⟩ := e
      obtain ⟨c1, c2⟩ := c
      dsimp only at c1 c2
      subst c1; subst c2
      exact ⟨t, rfl⟩
    · rw [if_neg c] at h
      cases hf : fnd i l es with
      | none => rw [hf] at h; cases h
      | some j' =>
        rw [hf] at h; cases h
        exact fnd_some (es := es) hf
theorem isKey_kD (i : Nat) (l : Rat) : isKey (kD i l) = true := nr rfl
theorem seen_in (i : Nat) (l : Rat) (es : List Ent3) : cmpD .isin (kD i l) (.ref 0) [seenO es] = some (fnd i l es).isSome := by
  show (if isKey (kD i l) then match keyIx (kD i l) (es.map fun e => kD e.1 e.2.1) with
      | some o => some o.isSome
      | none => none
    else none) = _
  rw [if_pos (isKey_kD i l), keyIx_fnd]
theorem seen_notin (i : Nat) (l : Rat) (es : List Ent3) : cmpD .notin (kD i l) (.ref 0) [seenO es] = some (!(fnd i l es).isSome) := by
  have h := seen_in i l es
  have e : cmpD .notin (kD i l) (.ref 0) [seenO es] = (match cmpD .isin (kD i l) (.ref 0) [seenO es] with
    | some b => some (!b)
    | none => none) := rfl
  rw [e, h]
theorem seen_idx {i : Nat} {l t : Rat} {es : List Ent3} {j : Nat} (h : fnd i l es = some j) (h2 : es[j]? = some (i, l, t)) : idxD (.ref 0) (kD i l) [seenO es] = some (frD t) := by
  show (if isKey (kD i l) then match keyIx (kD i l) (es.map fun e => kD e.1 e.2.1) with
      | some (some j) => (es.map fun e => frD e.2.2)[j]?
      | _ => none
    else none) = _
  rw [if_pos (isKey_kD i l), keyIx_fnd, h]
  simp [h2]
theorem seen_set (i : Nat) (l t : Rat) (es : List Ent3) (hl : es.length < 10000) : ∃ S', setItemD (.ref 0) (kD i l) (frD t) [seenO es] = some S' ∧ (fnd i l es = none → S' = [seenO (es ++ [(i, l, t)])]) := by
  have e : setItemD (.ref 0) (kD i l) (frD t) [seenO es] = (if isKey (kD i l) && decide ((es.map fun e => kD e.1 e.2.1).length < lineN) then match (match keyIx (kD i l) (es.map fun e => kD e.1 e.2.1) with
      | some (some j) => some ((es.map fun e => kD e.1 e.2.1), (es.map fun e => frD e.2.2).set j (frD t))
      | some none => some ((es.map fun e => kD e.1 e.2.1) ++ [kD i l], (es.map fun e => frD e.2.2) ++ [frD t])
      | none => none) with
        | some (ks', vs') => some ([seenO es].set 0 (.dT ks' vs'))
        | none => none
      else none) := rfl
  have hc : (isKey (kD i l) && decide ((es.map fun e => kD e.1 e.2.1).length < lineN)) = true := by
    rw [isKey_kD, List.length_map, Bool.true_and]
    exact decide_eq_true (by unfold lineN; omega)
  rw [e, if_pos hc, keyIx_fnd]
  cases hf : fnd i l es with
  | none => exact ⟨_, rfl, fun _ => by simp [seenO]⟩
  | some j => exact ⟨_, rfl, fun h => by cases h⟩
end K02
end
section
set_option linter.all false
set_option maxRecDepth 100000
set_option maxHeartbeats 2000000
set_option exponentiation.threshold 5000
set_option autoImplicit false
namespace K02
open KL
theorem idx_st0 (t l : Rat) (p : Ph) (i : Nat) (S : Store) : idxD (stD t p i l) (.int 0) S = some (frD t) := nr rfl
theorem idx_st1 (t l : Rat) (p : Ph) (i : Nat) (S : Store) : idxD (stD t p i l) (.int 1) S = some (.int i) := nr rfl
theorem idx_st2 (t l : Rat) (p : Ph) (i : Nat) (S : Store) : idxD (stD t p i l) (.int 2) S = some (frD l) := nr rfl
theorem cut_st (t l : Rat) (p : Ph) (i : Nat) (S : Store) : cutD (stD t p i l) (some 1) none S = some (.tup [.int i, frD l, p.left]) := nr rfl
theorem add_st (t l : Rat) (p : Ph) (i : Nat) (S : Store) : binD .add (.tup [frD t]) (.tup [.int i, frD l, p.left]) S = some (stD t p i l) := nr rfl
theorem call2_ev {C : CallF} {f : Nat} {A B : ME} {ρ : Env} {S S' : Store} {x y r : D} (ha : evalE G C A ρ S = some (.ok x S)) (hb : evalE G C B ρ S = some (.ok y S)) (h : C f [x, y] S = some (.ok r S')) :
    evalE G C (.call f [A, B]) ρ S = some (.ok r S') := by
  simp only [evalE_call, evalEs_cons, evalEs_nil, ha, hb, bnd_okS, ok_def, h]
theorem bin_ev {C : CallF} {op : BO} {A B : ME} {ρ : Env} {S S1 S2 : Store} {x y r : D} (ha : evalE G C A ρ S = some (.ok x S1)) (hb : evalE G C B ρ S1 = some (.ok y S2)) (h : binD op x y S2 = some r) : evalE G C (.bin op A B) ρ S = some (.ok r S2) := by
  rw [evalE_bin, ha, bnd_okS, hb, bnd_okS, h]; rfl
theorem asg_ev {C : CallF} {i : Nat} {e : ME} {ρ : Env} {S S' : Store} {x : D} (h : evalE G C e ρ S = some (.ok x S')) : exec G C (.asg (.name i) e) ρ S = some (.nx (ρ.set i (some x)) S') := by
  rw [exec_asg, h]; rfl
theorem skipped_none (k : Nat) {es : List Ent3} {t l m : Rat} {i : Nat} {p : Ph} (h : fnd i l es = none) : callK G T (k + 4) i_skipped [.ref 0, stD t p i l, frD m] [seenO es] = some (.ok (stD t p i l) [seenO es]) := by
  rw [call_imp (d := m_skipped) rfl rfl rfl]
  refine run_ret ?_
  have e : D.tup [.int i, frD l] = kD i l := rfl
  simp [m_skipped, idx_st1, idx_st2, e, seen_notin, h]
theorem many_ok {K : Nat} {ring rest : Rat} (h0 : 0 < ring) (h1 : 0 ≤ rest) : 0 < (rest.den : Int) * ring.num ∧ 0 ≤ rest.num * (ring.den : Int) ∧ ∃ n : Nat, rest.num * (ring.den : Int) / ((rest.den : Int) * ring.num) = (n : Int) ∧ (n : Rat) * ring ≤ rest ∧ n ≤ (rest.num * (ring.den : Int)).natAbs := by
  have a1 : 0 < ring.num := by
    refine Int.not_le.1 fun h => ?_
    have h2 : 0 ≤ (-ring).num := by rw [Rat.neg_num]; omega
    have := Rat.num_nonneg.1 h2
    grind
  have a2 : 0 ≤ rest.num := Rat.num_nonneg.2 h1
  have a3 : (0 : Int) < rest.den := by have := rest.den_pos; omega
  have a4 : (0 : Int) < ring.den := by have := ring.den_pos; omega
  have b1 : 0 < (rest.den : Int) * ring.num := Int.mul_pos a3 a1
  have b2 : 0 ≤ rest.num * (ring.den : Int) := Int.mul_nonneg a2 (Int.le_of_lt a4)
  refine ⟨b1, b2, ?_⟩
  have c1 := Int.ediv_nonneg b2 (Int.le_of_lt b1)
  obtain ⟨n, hn⟩ := Int.eq_ofNat_of_zero_le c1
  refine ⟨n, hn, ?_, ?_⟩
  · have d1 := Int.ediv_mul_le (rest.num * (ring.den : Int)) (b := (rest.den : Int) * ring.num) (by omega)
    rw [hn] at d1
    have d2 : (((n : Int) * ((rest.den : Int) * ring.num) : Int) : Rat) ≤ ((rest.num * (ring.den : Int) : Int) : Rat) := by
      rw [Rat.intCast_le_intCast]; exact d1
    simp only [Rat.intCast_mul, Rat.intCast_natCast] at d2
    have p1 : (0 : Rat) < (rest.den : Rat) := by have h2 : ((0 : Nat) : Rat) < (rest.den : Rat) := by rw [Rat.natCast_lt_natCast]; exact rest.den_pos
                                                 simpa using h2
    have p2 : (0 : Rat) < (ring.den : Rat) := by have h2 : ((0 : Nat) : Rat) < (ring.den : Rat) := by rw [Rat.natCast_lt_natCast]; exact ring.den_pos
                                                 simpa using h2
    have q1 : (rest.num : Rat) = rest * (rest.den : Rat) := by
      have h1 : (rest.num : Rat) / (rest.den : Rat) = rest := by rw [← Rat.mkRat_eq_div, Rat.mkRat_self]
      grind
    have q2 : (ring.num : Rat) = ring * (ring.den : Rat) := by
      have h1 : (ring.num : Rat) / (ring.den : Rat) = ring := by rw [← Rat.mkRat_eq_div, Rat.mkRat_self]
      grind
    rw [q1, q2] at d2
    have p3 := Rat.mul_pos p1 p2
    have d3 : ((n : Rat) * ring) * ((rest.den : Rat) * (ring.den : Rat)) ≤ rest * ((rest.den : Rat) * (ring.den : Rat)) := by grind
    exact Rat.le_of_mul_le_mul_right d3 p3
  · have := Int.ediv_le_self ((rest.den : Int) * ring.num) b2
    omega
theorem skipped_some (k : Nat) {es : List Ent3} {t l m t0 : Rat} {i j : Nat} {p : Ph} (h : fnd i l es = some j) (h2 : es[j]? = some (i, l, t0)) (hr : 0 < t - t0) (hm : t ≤ m) (st : Sm t) (st0 : Sm t0) (sm : Sm m) (sr : Sm (t - t0)) (ss : Sm (m - t))
    (sx : ∀ n : Nat, (n : Rat) * (t - t0) ≤ m - t → Sm ((t - t0) * (n : Rat))) :
    ∃ n : Nat, (n : Rat) * (t - t0) ≤ m - t ∧ callK G T (k + 4) i_skipped [.ref 0, stD t p i l, frD m] [seenO es] = some (.ok (stD (t + (t - t0) * (n : Rat)) p i l) [seenO es]) := by
  obtain ⟨b1, b2, n, hn, hle, hn2⟩ := many_ok (K := 1) hr (show 0 ≤ m - t by grind)
  refine ⟨n, hle, ?_⟩
  rw [call_imp (d := m_skipped) rfl rfl rfl]
  refine run_ret ?_
  have e : D.tup [.int i, frD l] = kD i l := rfl
  have e1 := minus_ok k [seenO es] t t0 st st0
  have e2 := minus_ok k [seenO es] m t sm st
  have s1 : Smi ((m - t).num * ((t - t0).den : Int)) := by
    unfold Smi; rw [Int.natAbs_mul, Int.natAbs_natCast]; exact lgt_mono (lgt_mul ss.2 sr.1) (by decide)
  have s2 : Smi (((m - t).den : Int) * (t - t0).num) := by
    unfold Smi; rw [Int.natAbs_mul, Int.natAbs_natCast]; exact lgt_mono (lgt_mul ss.1 sr.2) (by decide)
  have s3 : Smi (n : Int) := by unfold Smi; rw [Int.natAbs_natCast]; exact lgt_le s1 hn2
  have e3 := times_ok (k + 1) [seenO es] (t - t0) (n : Int) sr s3
  rw [Rat.intCast_natCast] at e3
  have e4 := plus_ok (k + 1) [seenO es] t ((t - t0) * (n : Rat)) st (sx n hle)
  let ρ0 : Env := [some (.ref 0), some (stD t p i l), some (frD m), some (kD i l), some (frD (t - t0)), some (frD (m - t)), none]
  have v1 : evalE G (callK G T (k + 3)) (.bin .fdiv (.bin .mul (.idx (.var 5) (.int 0)) (.idx (.var 4) (.int 1))) (.bin .mul (.idx (.var 5) (.int 1)) (.idx (.var 4) (.int 0)))) ρ0 [seenO es] = some (.ok (.int n) [seenO es]) := by
    have w1 := part_ev (C := callK G T (k + 3)) (A := .var 5) (ρ := ρ0) (S := [seenO es]) (p := m - t) (by simp [ρ0])
    have w2 := part_ev (C := callK G T (k + 3)) (A := .var 4) (ρ := ρ0) (S := [seenO es]) (p := t - t0) (by simp [ρ0])
    have x1 := mul_ev w1.1 w2.2 (mulOk_of (smi_num ss) (smi_den sr))
    have x2 := mul_ev w1.2 w2.1 (mulOk_of (smi_den ss) (smi_num sr))
    rw [← hn]
    exact bin_ev x1 x2 (bin_fdivI _ _ (divOk_of b1 s2))
  show execs G (callK G T (k + 3)) m_skipped.body [some (.ref 0), some (stD t p i l), some (frD m), none, none, none, none] [seenO es] = _
  refine ex_nx (ρ' := [some (.ref 0), some (stD t p i l), some (frD m), some (kD i l), none, none, none]) (S' := [seenO es]) (by simp [idx_st1, idx_st2, e]) ?_
  refine ex_nx (ρ' := [some (.ref 0), some (stD t p i l), some (frD m), some (kD i l), none, none, none]) (S' := [seenO es]) (by simp [seen_notin, h]) ?_
  refine ex_nx (ρ' := [some (.ref 0), some (stD t p i l), some (frD m), some (kD i l), some (frD (t - t0)), none, none]) (S' := [seenO es]) (asg_ev (call2_ev (by simp [idx_st0]) (by simp [seen_idx h h2]) e1)) ?_
  refine ex_nx (ρ' := ρ0) (S' := [seenO es]) (asg_ev (call2_ev (by simp) (by simp [idx_st0]) e2)) ?_
  refine ex_nx (asg_ev v1) ?_
  have v2 : evalE G (callK G T (k + 3)) (.call i_plus [.idx (.var 1) (.int 0), .call i_times [.var 4, .var 6]]) (ρ0.set 6 (some (.int n))) [seenO es] = some (.ok (frD (t + (t - t0) * (n : Rat))) [seenO es]) :=
    call2_ev (by simp [ρ0, idx_st0]) (call2_ev (by simp [ρ0]) (by simp [ρ0]) e3) e4
  have v3 : evalE G (callK G T (k + 3)) (.tup [.call i_plus [.idx (.var 1) (.int 0), .call i_times [.var 4, .var 6]]]) (ρ0.set 6 (some (.int n))) [seenO es] = some (.ok (.tup [frD (t + (t - t0) * (n : Rat))]) [seenO es]) := by
    rw [evalE_tup, evalEs_cons, v2]; simp
  have v4 : evalE G (callK G T (k + 3)) (.slc (.var 1) (some (.int 1)) none) (ρ0.set 6 (some (.int n))) [seenO es] = some (.ok (.tup [.int i, frD l, p.left]) [seenO es]) := by
    simp [ρ0, cut_st]
  rw [execs_cons, exec_ret, bin_ev v3 v4 (add_st _ _ _ _ _)]
  rfl
end K02
end
section
set_option linter.all false
set_option maxRecDepth 100000
set_option maxHeartbeats 2000000
set_option exponentiation.threshold 5000
set_option autoImplicit false
namespace K02
open KL
def sa1 : MS := .asg (.name 5) (.call i_time_left [.var 0, .var 1])
def sa2 : MS := .ifS (.or [.v (.cmp .isN (.var 5) (.non)), .v (.call i_is_less [.var 2, .call i_plus [.idx (.var 1) (.int 0), .var 5]])]) [
      .ret (.call i_moved [.var 0, .var 1, .var 2])] []
def sa3 : MS := .asg (.name 6) (.ife (.v (.cmp .eq (.idx (.idx (.var 0) (.idx (.var 1) (.int 1))) (.int 0)) (.str [104, 111, 108, 100]))) (.idx (.var 1) (.int 2)) (.call i_whole [.idx (.idx (.var 0) (.idx (.var 1) (.int 1))) (.int 1)]))
def sa4 : MS := .asg (.name 1) (.call i_begun_phase [.var 0, .call i_plus [.idx (.var 1) (.int 0), .var 5], .call i_next_of [.idx (.var 0) (.idx (.var 1) (.int 1))], .var 6])
def sa5 : MS := .ifS (.not (.v (.var 4))) [
      .asg (.name 7) (.tup [.idx (.var 1) (.int 1), .idx (.var 1) (.int 2)]), 
      .asg (.name 4) (.cmp .isin (.var 7) (.var 3)), 
      .asg (.name 1) (.call i_skipped [.var 3, .var 1, .var 2]), 
      .asg (.sub (.var 3) (.var 7)) (.idx (.var 1) (.int 0))] []
theorem sa_body : m_state_at.body = [.asg (.tup [.name 3, .name 4]) (.tup [.newT, .bl false]), .whl (.v (.bl true)) [sa1, sa2, sa3, sa4, sa5]] := nr rfl
def resD (m : Rat) (i : Nat) (l d : Rat) (p : Ph) : D := .tup [frD m, .int i, frD (p.lev l d), p.rest d]
theorem time_ok (k : Nat) (S : Store) {ps : List Ph} {m t l : Rat} {i : Nat} {p : Ph} (ok : OkS ps m t i l p) : callK G T (k + 5) i_time_left [phsD ps, stD t p i l] S = some (.ok (optF (p.dur l)) S) :=
  time_left_ok k S ok.hp (fun g n e => by subst e; have := ok.hz; cases this) ok.sl (fun g r n e => by obtain ⟨h1, h2, h3, h4, h5, h6, h7⟩ := ok.hg g r n e; exact ⟨h1, h3, h4, h5⟩)
theorem move_ok (k : Nat) (S : Store) {ps : List Ph} {m t l : Rat} {i : Nat} {p : Ph} (hm : Sm m) (ok : OkS ps m t i l p) : callK G T (k + 5) i_moved [phsD ps, stD t p i l, frD m] S = some (.ok (resD m i l (m - t) p) S) :=
  moved_ok k S ok.hp ok.st hm ok.sd ok.sl ok.hs (fun g r n e => by obtain ⟨h1, h2, h3, h4, h5, h6, h7⟩ := ok.hg g r n e; exact ⟨h1, h5, h7⟩)
theorem bndS_ret {α : Type} {ρ : Env} {S : Store} {a : α} {f : α → Store → Option SR} {r : Option SR} (h : f a S = r) : bndS ρ (some (.ok a S)) f = r := h
/-- a turn that ends -/
theorem sa_stop (k : Nat) (S : Store) {ps : List Ph} {m t l : Rat} {i : Nat} {p : Ph} (hm : Sm m) (ok : OkS ps m t i l p) (h : ∀ d, p.dur l = some d → m < t + d) (a b x y z : Option D) :
    execs G (callK G T (k + 5)) [sa1, sa2, sa3, sa4, sa5] [some (phsD ps), some (stD t p i l), some (frD m), a, b, x, y, z] S = some (.ret (resD m i l (m - t) p) S) := by
  have e1 := time_ok k S ok
  have e2 := move_ok k S hm ok
  refine ex_nx (ρ' := [some (phsD ps), some (stD t p i l), some (frD m), a, b, some (optF (p.dur l)), y, z]) (S' := S) (asg_ev (call2_ev (by simp) (by simp) e1)) ?_
  have e3 : evalT G (callK G T (k + 5)) (.or [.v (.cmp .isN (.var 5) (.non)), .v (.call i_is_less [.var 2, .call i_plus [.idx (.var 1) (.int 0), .var 5]])]) [some (phsD ps), some (stD t p i l), some (frD m), a, b, some (optF (p.dur l)), y, z] S = some (.ok true S) := by
    cases hd : p.dur l with
    | none => simp [optF, isN_non]
    | some d =>
      obtain ⟨d1, d2⟩ := ok.he d hd
      have e4 := plus_ok (k + 3) S t d ok.st d1
      have e5 := is_less_ok (k + 4) S m (t + d) hm d2
      have e6 : decide (m < t + d) = true := decide_eq_true (h d hd)
      rw [e6] at e5
      simp [optF, isN_fr, idx_st0, e4, e5]
  refine ex_if e3 ?_
  show execs G (callK G T (k + 5)) [.ret (.call i_moved [.var 0, .var 1, .var 2]), sa3, sa4, sa5] [some (phsD ps), some (stD t p i l), some (frD m), a, b, some (optF (p.dur l)), y, z] S = _
  rw [execs_cons, exec_ret, call3_ev (by simp) (by simp) (by simp) e2]
  rfl
theorem ex_else {C : CallF} {q : MQ} {a ss : List MS} {ρ : Env} {S S1 : Store} {x : Option SR} (h : evalT G C q ρ S = some (.ok false S1)) (r : execs G C ss ρ S1 = x) : execs G C (.ifS q a [] :: ss) ρ S = x := by
  rw [execs_cons, exec_if, h, bndS_okS, if_neg (by simp), execs_nil]; exact r
/-- a turn that goes on -/
theorem sa_go (k : Nat) (S : Store) {ps : List Ph} {z : Nat} {m t l d : Rat} {i j i1 : Nat} {l1 : Rat} {p p1 : Ph} (hz : z ≤ bigN) (hm : Sm m) (ok : OkS ps m t i l p) (hd : p.dur l = some d) (hle : t + d ≤ m) (hn : p.next = some j)
    (hb : begN ps z j (p.after l) = some (i1, l1)) (hp1 : ps[i1]? = some p1) (a b x y w : Option D) {r : Option SR}
    (hr : execs G (callK G T (k + 5)) [sa5] [some (phsD ps), some (stD (t + d) p1 i1 l1), some (frD m), a, b, some (frD d), some (frD (p.after l)), w] S = r) :
    execs G (callK G T (k + 5)) [sa1, sa2, sa3, sa4, sa5] [some (phsD ps), some (stD t p i l), some (frD m), a, b, x, y, w] S = r := by
  have e1 := time_ok k S ok
  obtain ⟨d1, d2⟩ := ok.he d hd
  have e4 := plus_ok (k + 3) S t d ok.st d1
  have e5 := is_less_ok (k + 4) S m (t + d) hm d2
  have e6 : decide (m < t + d) = false := decide_eq_false (by grind)
  rw [e6] at e5
  rw [hd] at e1
  have hi := idx_phs ok.hp
  refine ex_nx (ρ' := [some (phsD ps), some (stD t p i l), some (frD m), a, b, some (frD d), y, w]) (S' := S) (asg_ev (call2_ev (by simp) (by simp) e1)) ?_
  refine ex_else (S1 := S) (by simp [isN_fr, idx_st0, e4, e5]) ?_
  refine ex_nx (ρ' := [some (phsD ps), some (stD t p i l), some (frD m), a, b, some (frD d), some (frD (p.after l)), w]) (S' := S) ?_ ?_
  · cases p with
    | stay => cases hd
    | jump g n => cases hd
    | hold s n => exact asg_ev (by simp [idx_st1, idx_st2, hi, idx_word, Ph.word, Ph.after])
    | go g r n =>
      have ig : ∀ S, idxD (phD (.go g r n)) (.int 1) S = some (.int g) := fun _ => nr rfl
      have hw := wholeN_ok (k + 4) S g
      exact asg_ev (by simp [idx_st1, idx_st2, hi, idx_word, Ph.word, Ph.after, ig, hw])
  · refine ex_nx (ρ' := [some (phsD ps), some (stD (t + d) p1 i1 l1), some (frD m), a, b, some (frD d), some (frD (p.after l)), w]) (S' := S) ?_ hr
    have e7 := begun_ok (k + 3) S (t := t + d) hz hb hp1
    have e8 := next_of_ok (k + 4) S p
    rw [hn] at e8
    have e9 : evalE G (callK G T (k + 5)) (.call i_next_of [.idx (.var 0) (.idx (.var 1) (.int 1))]) [some (phsD ps), some (stD t p i l), some (frD m), a, b, some (frD d), some (frD (p.after l)), w] S = some (.ok (.int j) S) := by
      simp [idx_st1, hi, e8, optD]
    have e10 := call2_ev (A := .idx (.var 1) (.int 0)) (B := .var 5) (ρ := [some (phsD ps), some (stD t p i l), some (frD m), a, b, some (frD d), some (frD (p.after l)), w]) (by simp [idx_st0]) (by simp) e4
    refine asg_ev ?_
    have e11 : evalE G (callK G T (k + 5)) (.var 6) [some (phsD ps), some (stD t p i l), some (frD m), a, b, some (frD d), some (frD (p.after l)), w] S = some (.ok (frD (p.after l)) S) := by simp
    have e12 : evalE G (callK G T (k + 5)) (.var 0) [some (phsD ps), some (stD t p i l), some (frD m), a, b, some (frD d), some (frD (p.after l)), w] S = some (.ok (phsD ps) S) := by simp
    simp only [evalE_call, evalEs_cons, evalEs_nil, evalE_call] at e9 e10 ⊢
    rw [e12, bnd_okS, e10, bnd_okS, e9, bnd_okS, e11, bnd_okS, bnd_okS]
    exact e7
end K02
end
section
set_option linter.all false
set_option maxRecDepth 100000
set_option maxHeartbeats 2000000
set_option exponentiation.threshold 5000
set_option autoImplicit false
namespace K02
open KL
theorem loopW_ret {t : Env → Store → Out Bool} {b : Env → Store → Option SR} {n : Nat} {ρ : Env} {S S1 S' : Store} {d : D} (ht : t ρ S = some (.ok true S1)) (hb : b ρ S1 = some (.ret d S')) : loopW t b (n + 1) ρ S = some (.ret d S') := by
  show (bndS ρ (t ρ S) fun c S1 => if c then match b ρ S1 with
      | some (.nx ρ' S') => loopW t b n ρ' S'
      | some (.ct ρ' S') => loopW t b n ρ' S'
      | some (.brk ρ' S') => some (.nx ρ' S')
      | r => r
    else some (.nx ρ S1)) = _
  rw [ht, bndS_okS, if_pos rfl, hb]
abbrev saL (k f : Nat) (ρ : Env) (S : Store) : Option SR := loopW (fun ρ S => evalT G (callK G T (k + 5)) (.v (.bl true)) ρ S) (fun ρ S => execs G (callK G T (k + 5)) [sa1, sa2, sa3, sa4, sa5] ρ S) f ρ S
theorem tr_ev {C : CallF} (ρ : Env) (S : Store) : evalT G C (.v (.bl true)) ρ S = some (.ok true S) := nr rfl
theorem sa_loop2 (k : Nat) {ps : List Ph} {z L : Nat} {m : Rat} (hz : z ≤ bigN) (GP : GoodP ps z) (hL : 0 < L) (hk : lgt L 800) (gm : Gr (60 * L) m) (hm2 : m ≤ 100) (sm : Sm m) : ∀ (n : Nat) {w : Nat} {t : Rat} {i : Nat} {l : Rat} {p : Ph}, Inv ps L t i l p → Wh w l → t ≤ m → 6 * (m - t) + (w : Rat) < (n : Rat) →
    ∀ (S : Store) (f : Nat) (a x y v : Option D), n ≤ f → ∃ t2 i2 l2 p2 S', Inv ps L t2 i2 l2 p2 ∧ t2 ≤ m ∧ Fin ps z i l (m - t) i2 l2 (m - t2) ∧ saL k f [some (phsD ps), some (stD t p i l), some (frD m), a, some (.bl true), x, y, v] S = some (.ret (resD m i2 l2 (m - t2) p2) S')
  | 0, w, t, i, l, p, iv, hw, ht, hn, S, f, a, x, y, v, hf => by
    have e0 : ((0 : Nat) : Rat) = 0 := rfl
    have := nat0 w
    grind
  | n + 1, w, t, i, l, p, iv, hw, ht, hn, S, 0, a, x, y, v, hf => by omega
  | n + 1, w, t, i, l, p, iv, hw, ht, hn, S, f + 1, a, x, y, v, hf => by
    have ok := iv.ok hL hk gm ht hm2
    by_cases hg : ∃ d, p.dur l = some d ∧ t + d ≤ m
    · obtain ⟨d, hd, hle⟩ := hg
      obtain ⟨j, hn1, hj⟩ := iv.next hd
      obtain ⟨i1, l1, hb⟩ := GP.nz j (p.after l) hj
      obtain ⟨a1, a2, a3⟩ := iv.after
      obtain ⟨b1, b2, b3⟩ := iv.dur hd
      have t0 := iv.t0
      obtain ⟨p1, iv1⟩ := inv_beg GP hb (iv.gt.add b1) (by grind) a1 a2 a3
      obtain ⟨w', w1, w2, w3⟩ := iv.while_ hw hd
      have w4 := wh_beg GP hb w1 w2
      have e1 : ((n + 1 : Nat) : Rat) = (n : Rat) + 1 := by rw [Rat.natCast_add]; rfl
      obtain ⟨t2, i2, l2, p2, S', q1, q2, q3, q4⟩ := sa_loop2 k hz GP hL hk gm hm2 sm n iv1 w4 hle (by grind) S f a (some (frD d)) (some (frD (p.after l))) v (by omega)
      have e : m - (t + d) = m - t - d := by grind
      rw [e] at q3
      refine ⟨t2, i2, l2, p2, S', q1, q2, .step ⟨p, j, iv.hp, hd, hn1, hb⟩ (by grind) q3, ?_⟩
      refine loopW_more (tr_ev _ _) (sa_go k S hz sm ok hd hle hn1 hb iv1.hp a (some (.bl true)) x y v ?_) q4
      exact ex_else (S1 := S) (by simp) (by simp)
    · have hg2 : ∀ d, p.dur l = some d → m < t + d := fun d hd => by
        have : ¬ (t + d ≤ m) := fun h => hg ⟨d, hd, h⟩
        grind
      exact ⟨t, i, l, p, S, iv, ht, .rest iv.hp (fun d hd => by have := hg2 d hd; grind), loopW_ret (tr_ev _ _) (sa_stop k S sm ok hg2 a (some (.bl true)) x y v)⟩
/-- what was seen leads to where we are -/
def SeenI (ps : List Ph) (z L : Nat) (es : List Ent3) (t : Rat) (i : Nat) (l : Rat) : Prop := ∀ e ∈ es, Path ps z e.1 e.2.1 (t - e.2.2) i l ∧ Gr (60 * L) e.2.2 ∧ 0 ≤ e.2.2
theorem sa_loop1 (k : Nat) {ps : List Ph} {z L : Nat} {m : Rat} (hz : z ≤ bigN) (GP : GoodP ps z) (hL : 0 < L) (hk : lgt L 800) (gm : Gr (60 * L) m) (hm2 : m ≤ 100) (sm : Sm m) : ∀ (n : Nat) {w : Nat} {t : Rat} {i : Nat} {l : Rat} {p : Ph}, Inv ps L t i l p → Wh w l → t ≤ m → 6 * (m - t) + (w : Rat) < (n : Rat) →
    ∀ (es : List Ent3) (f : Nat) (x y v : Option D), n ≤ f → es.length + n < 10000 → SeenI ps z L es t i l →
      ∃ t2 i2 l2 p2 S', Inv ps L t2 i2 l2 p2 ∧ t2 ≤ m ∧ Fin ps z i l (m - t) i2 l2 (m - t2) ∧ saL k f [some (phsD ps), some (stD t p i l), some (frD m), some (.ref 0), some (.bl false), x, y, v] [seenO es] = some (.ret (resD m i2 l2 (m - t2) p2) S')
  | 0, w, t, i, l, p, iv, hw, ht, hn, es, f, x, y, v, hf, hlen, si => by
    have e0 : ((0 : Nat) : Rat) = 0 := rfl
    have := nat0 w
    grind
  | n + 1, w, t, i, l, p, iv, hw, ht, hn, es, 0, x, y, v, hf, hlen, si => by omega
  | n + 1, w, t, i, l, p, iv, hw, ht, hn, es, f + 1, x, y, v, hf, hlen, si => by
    have ok := iv.ok hL hk gm ht hm2
    have K0 : 0 < 60 * L := by omega
    have K1 := lgt6 hk
    by_cases hg : ∃ d, p.dur l = some d ∧ t + d ≤ m
    · obtain ⟨d, hd, hle⟩ := hg
      obtain ⟨j, hn1, hj⟩ := iv.next hd
      obtain ⟨i1, l1, hb⟩ := GP.nz j (p.after l) hj
      obtain ⟨a1, a2, a3⟩ := iv.after
      obtain ⟨b1, b2, b3⟩ := iv.dur hd
      have t0 := iv.t0
      obtain ⟨p1, iv1⟩ := inv_beg GP hb (iv.gt.add b1) (by grind) a1 a2 a3
      obtain ⟨w', w1, w2, w3⟩ := iv.while_ hw hd
      have w4 := wh_beg GP hb w1 w2
      have e1 : ((n + 1 : Nat) : Rat) = (n : Rat) + 1 := by rw [Rat.natCast_add]; rfl
      have stp : Stp ps z i l d i1 l1 := ⟨p, j, iv.hp, hd, hn1, hb⟩
      have ok1 := iv1.ok hL hk gm hle hm2
      have e : m - (t + d) = m - t - d := by grind
      have ekD : D.tup [.int i1, frD l1] = kD i1 l1 := rfl
      have tst : evalT G (callK G T (k + 5)) (.not (.v (.var 4))) [some (phsD ps), some (stD (t + d) p1 i1 l1), some (frD m), some (.ref 0), some (.bl false), some (frD d), some (frD (p.after l)), v] [seenO es] = some (.ok true [seenO es]) := by simp
      obtain ⟨ρ1, hρ1⟩ : ∃ ρ1 : Env, ρ1 = [some (phsD ps), some (stD (t + d) p1 i1 l1), some (frD m), some (.ref 0), some (.bl (fnd i1 l1 es).isSome), some (frD d), some (frD (p.after l)), some (kD i1 l1)] := ⟨_, rfl⟩
      have s1 : exec G (callK G T (k + 5)) (.asg (.name 7) (.tup [.idx (.var 1) (.int 1), .idx (.var 1) (.int 2)])) [some (phsD ps), some (stD (t + d) p1 i1 l1), some (frD m), some (.ref 0), some (.bl false), some (frD d), some (frD (p.after l)), v] [seenO es] = some (.nx [some (phsD ps), some (stD (t + d) p1 i1 l1), some (frD m), some (.ref 0), some (.bl false), some (frD d), some (frD (p.after l)), some (kD i1 l1)] [seenO es]) := by
        simp [idx_st1, idx_st2, ekD]
      have s2 : exec G (callK G T (k + 5)) (.asg (.name 4) (.cmp .isin (.var 7) (.var 3))) [some (phsD ps), some (stD (t + d) p1 i1 l1), some (frD m), some (.ref 0), some (.bl false), some (frD d), some (frD (p.after l)), some (kD i1 l1)] [seenO es] = some (.nx ρ1 [seenO es]) := by
        rw [hρ1]; simp [seen_in]
      cases hf1 : fnd i1 l1 es with
      | none =>
        have hsk := skipped_none (k + 1) (t := t + d) (m := m) (p := p1) hf1
        obtain ⟨S', hs', hs2⟩ := seen_set i1 l1 (t + d) es (by omega)
        have hS := hs2 hf1
        subst hS
        have si1 : SeenI ps z L (es ++ [(i1, l1, t + d)]) (t + d) i1 l1 := by
          intro e he
          rcases List.mem_append.1 he with h | h
          · obtain ⟨c1, c2, c3⟩ := si e h
            refine ⟨?_, c2, c3⟩
            have := Path.snoc c1 stp b2
            have e5 : t - e.2.2 + d = t + d - e.2.2 := by grind
            rwa [e5] at this
          · rcases List.mem_singleton.1 h with rfl
            refine ⟨?_, iv1.gt, iv1.t0⟩
            have e5 : t + d - (t + d) = 0 := by grind
            dsimp only
            rw [e5]; exact .refl
        obtain ⟨t2, i2, l2, p2, S', q1, q2, q3, q4⟩ := sa_loop1 k hz GP hL hk gm hm2 sm n iv1 w4 hle (by grind) (es ++ [(i1, l1, t + d)]) f (some (frD d)) (some (frD (p.after l))) (some (kD i1 l1)) (by omega) (by simp; omega) si1
        rw [e] at q3
        refine ⟨t2, i2, l2, p2, S', q1, q2, .step stp (by grind) q3, ?_⟩
        refine loopW_more (tr_ev _ _) (sa_go k [seenO es] hz sm ok hd hle hn1 hb iv1.hp (some (.ref 0)) (some (.bl false)) x y v ?_) q4
        rw [sa5, execs_cons, exec_if, tst, bndS_okS, if_pos rfl, ex_nx s1 (ex_nx s2 (ex_nx (ρ' := ρ1) (S' := [seenO es]) ?_ (ex_nx (ρ' := ρ1) (S' := [seenO (es ++ [(i1, l1, t + d)])]) ?_ (execs_nil))))]
        · rw [hρ1, hf1]; rfl
        · have := asg_ev (i := 1) (call3_ev (C := callK G T (k + 5)) (A := .var 3) (B := .var 1) (E := .var 2) (ρ := ρ1) (S := [seenO es]) (by rw [hρ1]; simp) (by rw [hρ1]; simp) (by rw [hρ1]; simp) hsk)
          rw [this, hρ1]; rfl
        · rw [hρ1]
          simp [idx_st0, hs']
      | some j0 =>
        obtain ⟨t0', hj0⟩ := fnd_some hf1
        obtain ⟨c1, c2, c3⟩ := si _ (List.mem_of_getElem? hj0)
        dsimp only at c1 c2 c3
        have hpath := Path.snoc c1 stp b2
        have e5 : t - t0' + d = t + d - t0' := by grind
        rw [e5] at hpath
        have hr : 0 < t + d - t0' := by have := c1.nn; grind
        have hsx : ∀ n : Nat, (n : Rat) * (t + d - t0') ≤ m - (t + d) → Sm ((t + d - t0') * (n : Rat)) := fun n h => by
          have g1 := (iv1.gt.sub c2).mulI (n : Int)
          rw [Rat.intCast_natCast] at g1
          have := Rat.mul_nonneg (nat0 n) (Rat.le_of_lt hr)
          exact sm_of K0 K1 g1 (by grind) (by have := iv1.t0; grind)
        obtain ⟨q, hq, hsk⟩ := skipped_some (k + 1) (p := p1) hf1 hj0 hr hle ok1.st (sm_of K0 K1 c2 (by grind) (by grind)) sm (sm_of K0 K1 (iv1.gt.sub c2) (by grind) (by grind)) ok1.sd hsx
        have hx := Rat.mul_nonneg (nat0 q) (Rat.le_of_lt hr)
        have g1 := (iv1.gt.sub c2).mulI (q : Int)
        rw [Rat.intCast_natCast] at g1
        have iv2 : Inv ps L (t + d + (t + d - t0') * (q : Rat)) i1 l1 p1 := ⟨iv1.hp, iv1.hz, iv1.gp, iv1.gt.add g1, iv1.gl, by have := iv1.t0; grind, iv1.l0, iv1.l1⟩
        obtain ⟨S1, hs', hs2⟩ := seen_set i1 l1 (t + d + (t + d - t0') * (q : Rat)) es (by omega)
        obtain ⟨t2, i2, l2, p2, S', q1, q2, q3, q4⟩ := sa_loop2 k hz GP hL hk gm hm2 sm n iv2 w4 (by grind) (by grind) S1 f (some (.ref 0)) (some (frD d)) (some (frD (p.after l))) (some (kD i1 l1)) (by omega)
        have q3' : Fin ps z i1 l1 (m - t - d) i2 l2 (m - t2) := by
          refine Fin.ring hpath q (by grind) ?_
          have e6 : m - (t + d + (t + d - t0') * (q : Rat)) = m - t - d - (q : Rat) * (t + d - t0') := by grind
          rwa [e6] at q3
        refine ⟨t2, i2, l2, p2, S', q1, q2, .step stp (by grind) q3', ?_⟩
        refine loopW_more (tr_ev _ _) (sa_go k [seenO es] hz sm ok hd hle hn1 hb iv1.hp (some (.ref 0)) (some (.bl false)) x y v ?_) q4
        rw [sa5, execs_cons, exec_if, tst, bndS_okS, if_pos rfl, ex_nx s1 (ex_nx s2 (ex_nx (ρ' := ρ1.set 1 (some (stD (t + d + (t + d - t0') * (q : Rat)) p1 i1 l1))) (S' := [seenO es]) ?_ (ex_nx (ρ' := ρ1.set 1 (some (stD (t + d + (t + d - t0') * (q : Rat)) p1 i1 l1))) (S' := S1) ?_ (execs_nil))))]
        · rw [hρ1, hf1]; rfl
        · exact asg_ev (i := 1) (call3_ev (C := callK G T (k + 5)) (A := .var 3) (B := .var 1) (E := .var 2) (ρ := ρ1) (S := [seenO es]) (by rw [hρ1]; simp) (by rw [hρ1]; simp) (by rw [hρ1]; simp) hsk)
        · rw [hρ1]
          simp [idx_st0, hs']
    · have hg2 : ∀ d, p.dur l = some d → m < t + d := fun d hd => by
        have : ¬ (t + d ≤ m) := fun h => hg ⟨d, hd, h⟩
        grind
      exact ⟨t, i, l, p, [seenO es], iv, ht, .rest iv.hp (fun d hd => by have := hg2 d hd; grind), loopW_ret (tr_ev _ _) (sa_stop k [seenO es] sm ok hg2 (some (.ref 0)) (some (.bl false)) x y v)⟩
end K02
end
section
set_option linter.all false
set_option maxRecDepth 100000
set_option maxHeartbeats 2000000
set_option exponentiation.threshold 5000
set_option autoImplicit false
namespace K02
open KL
theorem sm_big (n : Nat) (h : n < 10000) : n < bigN := lt_bigN (lgt_le (m := 10000) (lgt_mono (a := 14) (by unfold lgt; decide) (by decide)) (by omega))
theorem pure_st (t l : Rat) (p : Ph) (i : Nat) : pureD (stD t p i l) = true := by cases p <;> rfl
theorem pure_res (m : Rat) (i : Nat) (l d : Rat) (p : Ph) : pureD (resD m i l d p) = true := by cases p <;> rfl
theorem wh1 (l : Rat) : Wh 1 l := Or.inl rfl
theorem m602 {m t : Rat} (t0 : 0 ≤ t) (hm : m ≤ 100) : 6 * (m - t) + ((1 : Nat) : Rat) < ((602 : Nat) : Rat) := by
  have e1 : ((1 : Nat) : Rat) = 1 := rfl
  have e2 : ((602 : Nat) : Rat) = 602 := rfl
  rw [e1, e2]; grind
theorem state_at_ok (k : Nat) (S : Store) {ps : List Ph} {z L : Nat} {m : Rat} (hz : z ≤ bigN) (GP : GoodP ps z) (hL : 0 < L) (hk : lgt L 800) (gm : Gr (60 * L) m) (hm2 : m ≤ 100) {t : Rat} {i : Nat} {l : Rat} {p : Ph} (iv : Inv ps L t i l p) (ht : t ≤ m) :
    ∃ t2 i2 l2 p2, Inv ps L t2 i2 l2 p2 ∧ t2 ≤ m ∧ Fin ps z i l (m - t) i2 l2 (m - t2) ∧ callK G T (k + 6) i_state_at [phsD ps, stD t p i l, frD m] S = some (.ok (resD m i2 l2 (m - t2) p2) S) := by
  have t0 := iv.t0
  have sm : Sm m := sm_of (by omega) (lgt6 hk) gm (by grind) (by grind)
  obtain ⟨t2, i2, l2, p2, S', q1, q2, q3, q4⟩ := sa_loop1 k hz GP hL hk gm hm2 sm 602 iv (wh1 l) ht (m602 t0 hm2) [] bigN none none none (Nat.le_of_lt (sm_big 602 (by omega))) (by simp) (by intro e he; cases he)
  refine ⟨t2, i2, l2, p2, q1, q2, q3, ?_⟩
  refine call_pure (d := m_state_at) rfl rfl rfl (by simp [pure_fr, pure_phs, pure_st]) (pure_res ..) (S1 := S') (run_ret ?_)
  show execs G (callK G T (k + 5)) m_state_at.body [some (phsD ps), some (stD t p i l), some (frD m), none, none, none, none, none] [] = _
  rw [sa_body]
  refine ex_nx (ρ' := [some (phsD ps), some (stD t p i l), some (frD m), some (.ref 0), some (.bl false), none, none, none]) (S' := [seenO []]) (nr rfl) ?_
  rw [execs_cons, exec_whl]
  rw [show loopW _ _ _ _ _ = _ from q4]
theorem state_at0_ok (k : Nat) (S : Store) {ps : List Ph} {t l m : Rat} (st : Sm t) (sm : Sm m) : callK G T (k + 6) i_state_at [phsD ps, st0 t l, frD m] S = some (.ok (st0 m l) S) := by
  refine call_pure (d := m_state_at) rfl rfl rfl (by simp [pure_fr, pure_phs, st0]) rfl (S1 := [seenO []]) (run_ret ?_)
  show execs G (callK G T (k + 5)) m_state_at.body [some (phsD ps), some (st0 t l), some (frD m), none, none, none, none, none] [] = _
  rw [sa_body]
  refine ex_nx (ρ' := [some (phsD ps), some (st0 t l), some (frD m), some (.ref 0), some (.bl false), none, none, none]) (S' := [seenO []]) (nr rfl) ?_
  have e1 := time_left0_ok (k + 4) [seenO []] (ps := ps) (t := t) (l := l)
  have e2 := moved0_ok (k + 1) [seenO []] (ps := ps) (t := t) (l := l) (m := m) st sm
  obtain ⟨f, hf⟩ : ∃ f, bigN = f + 1 := ⟨bigN - 1, by have := sm_big 1 (by omega); omega⟩
  rw [execs_cons, exec_whl, hf]
  rw [loopW_ret (S1 := [seenO []]) (S' := [seenO []]) (d := st0 m l) (tr_ev _ _) ?_]
  refine ex_nx (ρ' := [some (phsD ps), some (st0 t l), some (frD m), some (.ref 0), some (.bl false), some .non, none, none]) (S' := [seenO []]) (asg_ev (call2_ev (by simp) (by simp) e1)) ?_
  refine ex_if (S1 := [seenO []]) (by simp [isN_non]) ?_
  show execs G (callK G T (k + 5)) [.ret (.call i_moved [.var 0, .var 1, .var 2]), sa3, sa4, sa5] _ _ = _
  rw [execs_cons, exec_ret, call3_ev (by simp) (by simp) (by simp) e2]
  rfl
/-- nothing begun yet, in the law -/
def lawN0 : D := .dS [[112, 104, 97, 115, 101], [108, 101, 118, 101, 108], [99, 108, 111, 99, 107], [101, 110, 100]] [.non, frD 0, frD 0, .non]
theorem idx_nphase (S : Store) : idxD lawN0 (.str [112, 104, 97, 115, 101]) S = some .non := nr rfl
theorem idx_nlevel (S : Store) : idxD lawN0 (.str [108, 101, 118, 101, 108]) S = some (frD 0) := nr rfl
theorem idx_nend (S : Store) : idxD lawN0 (.str [101, 110, 100]) S = some .non := nr rfl
theorem frz_n (S : Store) : frzD lawN0 S = some (.ok lawN0 S) := nr rfl
theorem led0_ok (k : Nat) (S : Store) {ps : List Ph} {m : Rat} : callK G T (k + 5) i_law_led [phsD ps, lawN0, frD m] S = some (.ok lawN0 S) := by
  refine call_pure (d := m_law_led) rfl rfl rfl (by simp [pure_fr, pure_phs]; rfl) rfl (S1 := []) (run_ret ?_)
  obtain ⟨f, hf⟩ : ∃ f, bigN = f + 1 := ⟨bigN - 1, by have := sm_big 1 (by omega); omega⟩
  show execs G (callK G T (k + 4)) (.whl lq lb :: m_law_led.body.drop 1) [some (phsD ps), some lawN0, some (frD m), none, none, none, none] [] = _
  rw [execs_cons, exec_whl, hf, loopW_stop (S1 := []) (by simp [lq, idx_nend, notN_non])]
  simp [m_law_led, idx_nphase, notN_non, frz_n]
theorem Fin.rest_of {ps : List Ph} {z i : Nat} {l r : Rat} {i2 : Nat} {l2 r2 : Rat} (h : Fin ps z i l r i2 l2 r2) : ∀ p d, ps[i2]? = some p → p.dur l2 = some d → r2 < d := by
  induction h with
  | rest hp h =>
    intro p d hp2 hd
    have e := Option.some.inj (hp.symm.trans hp2)
    subst e
    exact h d hd
  | step s hd h ih => exact ih
/-- the level within a phase -/
theorem Inv.lev {ps : List Ph} {L : Nat} {t : Rat} {i : Nat} {l : Rat} {p : Ph} (iv : Inv ps L t i l p) {m : Rat} (gm : Gr (60 * L) m) (hm : t ≤ m) (hd : ∀ d, p.dur l = some d → m - t < d) : Gr (60 * L) (p.lev l (m - t)) ∧ 0 ≤ p.lev l (m - t) ∧ p.lev l (m - t) ≤ 12 := by
  have gp := iv.gp
  have l0 := iv.l0
  have l1 := iv.l1
  cases p with
  | stay => exact ⟨iv.gl.up 60, l0, l1⟩
  | hold s n => exact ⟨iv.gl.up 60, l0, l1⟩
  | jump g n => exact ⟨iv.gl.up 60, l0, l1⟩
  | go g r n =>
    obtain ⟨g1, g2, g3, g4⟩ := gp
    have h := hd _ rfl
    have hg := nat12 g1
    have hg0 := nat0 g
    have hr : (0 : Rat) < (r : Rat) := by have := natR g2; have e : ((1 : Nat) : Rat) = 1 := rfl; grind
    have h2 : (m - t) * (r : Rat) < absR (l - (g : Rat)) := by
      have e := Rat.mul_lt_mul_of_pos_right h hr
      have e2 : absR (l - (g : Rat)) / (r : Rat) * (r : Rat) = absR (l - (g : Rat)) := by grind
      rwa [e2] at e
    have h3 := Rat.mul_nonneg (show 0 ≤ m - t by grind) (Rat.le_of_lt hr)
    refine ⟨(iv.gl.up 60).add ((gm.sub iv.gt).mulI _), ?_⟩
    show 0 ≤ l + (m - t) * ((sgn l g * (r : Int) : Int) : Rat) ∧ l + (m - t) * ((sgn l g * (r : Int) : Int) : Rat) ≤ 12
    have hs : ((sgn l g * (r : Int) : Int) : Rat) = if l < (g : Rat) then (r : Rat) else -(r : Rat) := by
      unfold sgn
      by_cases c : l < (g : Rat)
      · rw [if_pos c, if_pos c, Int.one_mul, Rat.intCast_natCast]
      · rw [if_neg c, if_neg c, Int.neg_mul, Int.one_mul, Rat.intCast_neg, Rat.intCast_natCast]
    rw [hs]
    by_cases c : l < (g : Rat)
    · rw [if_pos c]
      have ha : absR (l - (g : Rat)) = (g : Rat) - l := by rcases absR_or (l - (g : Rat)) with h | h <;> grind
      grind
    · rw [if_neg c]
      have ha : absR (l - (g : Rat)) = l - (g : Rat) := by rcases absR_or (l - (g : Rat)) with h | h <;> grind
      grind
/-- the program's state and the law's go together -/
inductive Sy (ps : List Ph) (L : Nat) : Rat → D → D → Prop
  | none : Sy ps L 0 (st0 0 0) lawN0
  | run {t : Rat} {i : Nat} {l : Rat} {p : Ph} (iv : Inv ps L t i l p) : Sy ps L t (stD t p i l) (lawD i l t ((p.dur l).map (t + ·)))
theorem Sy.pure {ps : List Ph} {L : Nat} {t : Rat} {s w : D} (h : Sy ps L t s w) : pureD s = true ∧ pureD w = true := by
  cases h with
  | none => exact ⟨rfl, rfl⟩
  | run iv => exact ⟨pure_st .., pure_lawD ..⟩
/-- what both tell at a moment -/
structure Tell (m : Rat) (s w : D) (ph : D) (lv : Rat) : Prop where
  s0 : ∀ S, idxD s (.int 0) S = some (frD m)
  s1 : ∀ S, idxD s (.int 1) S = some ph
  s2 : ∀ S, idxD s (.int 2) S = some (frD lv)
  w1 : ∀ S, idxD w (.str [112, 104, 97, 115, 101]) S = some ph
  w2 : ∀ S, idxD w (.str [108, 101, 118, 101, 108]) S = some (frD lv)
  ps : pureD s = true
  pw : pureD w = true
  ph : ph = .non ∨ ∃ i : Nat, ph = .int i
theorem sy_at (k kl : Nat) {ps : List Ph} {z L : Nat} {m : Rat} (hz : z ≤ bigN) (GP : GoodP ps z) (hL : 0 < L) (hk : lgt L 800) (gm : Gr (60 * L) m) (hm2 : m ≤ 100) {t : Rat} {s w : D} (h : Sy ps L t s w) (ht : t ≤ m) :
    ∃ s' w' ph lv, Tell m s' w' ph lv ∧ Gr (60 * L) lv ∧ 0 ≤ lv ∧ lv ≤ 12 ∧ (∀ S, callK G T (k + 6) i_state_at [phsD ps, s, frD m] S = some (.ok s' S)) ∧ (∀ S, callK G T (kl + 5) i_law_led [phsD ps, w, frD m] S = some (.ok w' S)) := by
  cases h with
  | none =>
    have sm : Sm m := sm_of (by omega) (lgt6 hk) gm (by grind) (by grind)
    have s0 : Sm (0 : Rat) := by have := sm_of (K := 60 * L) (by omega) (lgt6 hk) (Gr.nat _ 0) (by decide) (by decide); simpa using this
    refine ⟨st0 m 0, lawN0, .non, 0, ⟨fun _ => rfl, fun _ => rfl, fun _ => rfl, fun _ => rfl, fun _ => rfl, rfl, rfl, .inl rfl⟩, ?_, by grind, by grind, fun S => state_at0_ok k S s0 sm, fun S => led0_ok kl S⟩
    have := Gr.nat (60 * L) 0
    simpa using this
  | @run _ i l p iv =>
    obtain ⟨t2, i2, l2, p2, q1, q2, q3, q4⟩ := state_at_ok k [] hz GP hL hk gm hm2 iv ht
    have t0 := iv.t0
    have sm : Sm m := sm_of (by omega) (lgt6 hk) gm (by grind) (by grind)
    obtain ⟨t3, i3, l3, p3, r1, r2, r3, r4⟩ := led_ex GP hL hk gm hm2 602 iv (wh1 l) ht (m602 t0 hm2)
    obtain ⟨e1, e2, e3⟩ := q3.det r4
    subst e1; subst e2
    have e4 : t2 = t3 := by grind
    subst e4
    have e5 := Option.some.inj (q1.hp.symm.trans r2.hp)
    subst e5
    obtain ⟨tc, hc⟩ := led_ok kl hz sm r1 (sm_big 602 (by omega)) (iv.ok hL hk gm ht hm2) (r2.ok hL hk gm r3 hm2)
    obtain ⟨v1, v2, v3⟩ := q1.lev gm q2 (fun d hd => q3.rest_of _ d q1.hp hd)
    have hs : ∀ S, callK G T (k + 6) i_state_at [phsD ps, stD t p i l, frD m] S = some (.ok (resD m i2 l2 (m - t2) p2) S) := fun S => by
      obtain ⟨t4, i4, l4, p4, x1, x2, x3, x4⟩ := state_at_ok k S hz GP hL hk gm hm2 iv ht
      obtain ⟨e1, e2, e3⟩ := q3.det x3
      subst e1; subst e2
      have e4 : t2 = t4 := by grind
      subst e4
      have e5 := Option.some.inj (q1.hp.symm.trans x1.hp)
      subst e5
      exact x4
    exact ⟨resD m i2 l2 (m - t2) p2, lawD i2 (p2.lev l2 (m - t2)) tc ((p2.dur l2).map (t2 + ·)), .int i2, p2.lev l2 (m - t2), ⟨fun _ => rfl, fun _ => rfl, fun _ => rfl, fun _ => rfl, fun _ => rfl, pure_res .., pure_lawD .., .inr ⟨i2, rfl⟩⟩, v1, v2, v3, hs, hc⟩
/-- both begin the same phase -/
theorem sy_press (k kl : Nat) {ps : List Ph} {z L : Nat} {m : Rat} (hz : z ≤ bigN) (GP : GoodP ps z) (hL : 0 < L) (hk : lgt L 790) (gm : Gr (60 * L) m) (m0 : 0 ≤ m) (hm2 : m ≤ 100) {lv : Rat} (gl : Gr (60 * L) lv) (l0 : 0 ≤ lv) (l1 : lv ≤ 12) {i : Nat} (hi : i < ps.length) :
    ∃ s w, Sy ps (60 * L) m s w ∧ (∀ S, callK G T (k + 6) i_begun_phase [phsD ps, frD m, .int i, frD lv] S = some (.ok s S)) ∧ (∀ S, callK G T (kl + 5) i_law_begin [phsD ps, .int i, frD lv, frD m] S = some (.ok w S)) := by
  obtain ⟨j, l', hb⟩ := GP.nz i lv hi
  obtain ⟨p, iv⟩ := inv_beg (t := m) GP hb (gm.up 60) m0 gl l0 l1
  have ok := iv.ok (m := m) (by omega) (lgt_mono (lgt_mul (show lgt 60 6 by unfold lgt; decide) hk) (by decide)) (gm.up 60) (by grind) hm2
  refine ⟨_, _, .run iv, fun S => begun_ok (k + 4) S hz hb iv.hp, fun S => lbegin_ok (kl + 1) S hz hb iv.hp ok.st ok.sl ok.hs (fun g r n h => by obtain ⟨h1, h2, h3, h4, h5, h6, h7⟩ := ok.hg g r n h; exact ⟨h1, h2, h4, h5, h6⟩)⟩
end K02
end
section
set_option linter.all false
set_option maxRecDepth 100000
set_option maxHeartbeats 2000000
set_option exponentiation.threshold 5000
set_option autoImplicit false
namespace K02
open KL
theorem idx_tup {xs : List D} {i : Nat} {p : D} (h : xs[i]? = some p) (S : Store) : idxD (.tup xs) (.int i) S = some p := by
  have hl : i < xs.length := by
    have := List.getElem?_eq_some_iff.1 h; exact this.1
  show (match ixOf xs.length (i : Int) with
    | some j => xs[j]?
    | none => none) = _
  have e : ixOf xs.length (i : Int) = some i := by
    unfold ixOf
    rw [if_pos (by omega), if_pos (by omega)]; simp
  rw [e]
  exact h
def intsD (ps : List Nat) : List D := ps.map fun (p : Nat) => D.int (p : Int)
def rowD (g : Nat) (ps : List Nat) : D := .tup [.int g, .tup (intsD ps)]
def envD (pr re : Nat) (ps : List Ph) : D := .tup [.int pr, .int re, phsD ps]
theorem pure_ints (ps : List Nat) : pureDs (intsD ps) = true := by
  unfold intsD
  induction ps with
  | nil => rfl
  | cons p ps ih => simp [ih]
theorem pure_row (g : Nat) (ps : List Nat) : pureD (rowD g ps) = true := by simp [rowD, pure_ints]
theorem pure_env (pr re : Nat) (ps : List Ph) : pureD (envD pr re ps) = true := by simp [envD, pure_phs]
theorem idx_row0 (g : Nat) (ps : List Nat) (S : Store) : idxD (rowD g ps) (.int 0) S = some (.int g) := nr rfl
theorem idx_row1 (g : Nat) (ps : List Nat) (S : Store) : idxD (rowD g ps) (.int 1) S = some (.tup (intsD ps)) := nr rfl
theorem idx_env0 (pr re : Nat) (ps : List Ph) (S : Store) : idxD (envD pr re ps) (.int 0) S = some (.int pr) := nr rfl
theorem idx_env1 (pr re : Nat) (ps : List Ph) (S : Store) : idxD (envD pr re ps) (.int 1) S = some (.int re) := nr rfl
theorem idx_env2 (pr re : Nat) (ps : List Ph) (S : Store) : idxD (envD pr re ps) (.int 2) S = some (phsD ps) := nr rfl
/-- a moment -/
def mt (g p : Nat) : Rat := ((p : Int) : Rat) / (g : Rat)
theorem mt_pos {g : Nat} (hg : 0 < g) : (0 : Rat) < (g : Rat) := by
  have h2 : ((0 : Nat) : Rat) < (g : Rat) := by rw [Rat.natCast_lt_natCast]; exact hg
  simpa using h2
theorem mt_mul {g : Nat} (hg : 0 < g) (p : Nat) : mt g p * (g : Rat) = (p : Rat) := by
  have := mt_pos hg
  unfold mt; rw [Rat.intCast_natCast]; grind
theorem mt_gr {g : Nat} (hg : 0 < g) (p : Nat) : Gr g (mt g p) := ⟨p, by rw [mt_mul hg, Rat.intCast_natCast]⟩
theorem mt_le {g : Nat} (hg : 0 < g) {p q : Nat} (h : p ≤ q) : mt g p ≤ mt g q := by
  have h1 := mt_mul hg p
  have h2 := mt_mul hg q
  have h3 := natR h
  rw [← h1, ← h2] at h3
  exact Rat.le_of_mul_le_mul_right h3 (mt_pos hg)
theorem mt_0 {g : Nat} (hg : 0 < g) : mt g 0 = 0 := by
  have h1 := mt_mul hg 0
  have h2 := mt_pos hg
  have e0 : ((0 : Nat) : Rat) = 0 := rfl
  rw [e0] at h1
  grind
theorem mt_100 {g : Nat} (hg : 0 < g) {p : Nat} (h : p ≤ 100 * g) : mt g p ≤ 100 := by
  have h1 := mt_mul hg p
  have h3 := natR h
  rw [Rat.natCast_mul, ← h1] at h3
  have e0 : ((100 : Nat) : Rat) = 100 := rfl
  rw [e0] at h3
  exact Rat.le_of_mul_le_mul_right h3 (mt_pos hg)
def pbody : List MS := [.ifS (.v (.cmp .le (.var 8) (.var 2))) [
      .asg (.name 9) (.call i_state_at [.var 6, .var 3, .call i_lowest [.var 8, .idx (.var 1) (.int 0)]]), 
      .asg (.name 3) (.call i_begun_phase [.var 6, .idx (.var 9) (.int 0), .ife (.v (.cmp .eq (.bin .mod (.var 7) (.int 2)) (.int 1))) (.var 5) (.var 4), .idx (.var 9) (.int 2)])] []]
def lbody : List MS := [.ifS (.v (.cmp .le (.idx (.idx (.var 1) (.int 1)) (.var 4)) (.var 2))) [
      .asg (.name 5) (.call i_law_low [.idx (.idx (.var 1) (.int 1)) (.var 4), .idx (.var 1) (.int 0)]), 
      .asg (.name 3) (.call i_law_led [.idx (.var 0) (.int 2), .var 3, .var 5]), 
      .asg (.name 3) (.call i_law_begin [.idx (.var 0) (.int 2), .idx (.var 0) (.bin .mod (.var 4) (.int 2)), .idx (.var 3) (.str [108, 101, 118, 101, 108]), .var 5])] []]
theorem loopF_nil {tg : D → Env → Store → Option SR} {b : Env → Store → Option SR} {ρ : Env} {S : Store} : loopF tg b [] ρ S = some (.nx ρ S) := rfl
theorem loopF_more {tg : D → Env → Store → Option SR} {b : Env → Store → Option SR} {x : D} {xs : List D} {ρ ρ1 ρ2 : Env} {S S1 S2 : Store} {r : Option SR} (h1 : tg x ρ S = some (.nx ρ1 S1)) (h2 : b ρ1 S1 = some (.nx ρ2 S2)) (h3 : loopF tg b xs ρ2 S2 = r) : loopF tg b (x :: xs) ρ S = r := by
  unfold loopF; rw [h1]; dsimp only; rw [h2]; exact h3
theorem call4_ev {C : CallF} {f : Nat} {A B E F : ME} {ρ : Env} {S : Store} {x y z v r : D} (ha : evalE G C A ρ S = some (.ok x S)) (hb : evalE G C B ρ S = some (.ok y S)) (hc : evalE G C E ρ S = some (.ok z S)) (hd : evalE G C F ρ S = some (.ok v S)) (h : C f [x, y, z, v] S = some (.ok r S)) :
    evalE G C (.call f [A, B, E, F]) ρ S = some (.ok r S) := by
  simp only [evalE_call, evalEs_cons, evalEs_nil, ha, hb, hc, hd, bnd_okS, ok_def, h]
theorem ex_then {C : CallF} {q : MQ} {a ss : List MS} {ρ ρ' : Env} {S S1 S' : Store} {x : Option SR} (h : evalT G C q ρ S = some (.ok true S1)) (h2 : execs G C a ρ S1 = some (.nx ρ' S')) (r : execs G C ss ρ' S' = x) : execs G C (.ifS q a [] :: ss) ρ S = x := by
  rw [execs_cons, exec_if, h, bndS_okS, if_pos rfl, h2]; exact r
/-- both over a row -/
theorem row_loop (k kl : Nat) {ps : List Ph} {z : Nat} (hz : z ≤ bigN) (GP : GoodP ps z) {g : Nat} (hg : 0 < g) (hg3 : lgt g 3000) {pr re mo : Nat} (hpr : pr < ps.length) (hre : re < ps.length) (hmo : mo ≤ 100 * g) {al : List Nat} :
    ∀ (rest : List Nat) (c L : Nat) (t : Rat) (s w : D), (∀ j, rest[j]? = al[c + j]?) → rest.Pairwise (· ≤ ·) → Sy ps L t s w → t ≤ mt g mo → (∀ p ∈ rest, t ≤ mt g p) → 0 < L → (∃ v, L = v * g) → lgt L (20 + 6 * c) → c + rest.length ≤ 100 →
      ∀ (x7 x8 x9 y4 y5 : Option D), ∃ s' w' L' t' x7' x8' x9' y4' y5', Sy ps L' t' s' w' ∧ t' ≤ mt g mo ∧ 0 < L' ∧ (∃ v, L' = v * g) ∧ lgt L' 700 ∧
        loopF (fun d ρ S => asgT G (callK G T (k + 6)) (.tup [.name 7, .name 8]) d ρ S) (fun ρ S => execs G (callK G T (k + 6)) pbody ρ S) (enumL c (intsD rest)) [some (envD pr re ps), some (rowD g al), some (.int mo), some s, some (.int pr), some (.int re), some (phsD ps), x7, x8, x9] [] =
          some (.nx [some (envD pr re ps), some (rowD g al), some (.int mo), some s', some (.int pr), some (.int re), some (phsD ps), x7', x8', x9'] []) ∧
        loopF (fun d ρ S => asgT G (callK G T (kl + 5)) (.name 4) d ρ S) (fun ρ S => execs G (callK G T (kl + 5)) lbody ρ S) (rangeL c 1 rest.length) [some (envD pr re ps), some (rowD g al), some (.int mo), some w, y4, y5] [] =
          some (.nx [some (envD pr re ps), some (rowD g al), some (.int mo), some w', y4', y5'] [])
  | [], c, L, t, s, w, hal, hpw, sy, ht, hts, hL, hv, hk, hc, x7, x8, x9, y4, y5 =>
    ⟨s, w, L, t, x7, x8, x9, y4, y5, sy, ht, hL, hv, lgt_mono hk (by simp at hc; omega), rfl, rfl⟩
  | p :: rest, c, L, t, s, w, hal, hpw, sy, ht, hts, hL, hv, hk, hc, x7, x8, x9, y4, y5 => by
    have h0 := hal 0
    simp only [List.getElem?_cons_zero, Nat.add_zero] at h0
    have hix : ∀ S, idxD (.tup (intsD al)) (.int c) S = some (.int p) := fun S => idx_tup (by simp [intsD, ← h0]) S
    have hal2 : ∀ j, rest[j]? = al[c + 1 + j]? := fun j => by
      have := hal (j + 1)
      simp only [List.getElem?_cons_succ] at this
      rw [this]; congr 1; omega
    have hpw2 := (List.pairwise_cons.1 hpw)
    have hcl : c + 1 + rest.length ≤ 100 := by simp at hc; omega
    have ee : enumL c (intsD (p :: rest)) = .tup [.int c, .int p] :: enumL (c + 1) (intsD rest) := rfl
    have er : rangeL (c : Int) 1 (p :: rest).length = .int c :: rangeL ((c + 1 : Nat) : Int) 1 rest.length := rfl
    rw [ee, er]
    have tp : ∀ (S : Store), asgT G (callK G T (k + 6)) (.tup [.name 7, .name 8]) (.tup [.int c, .int p]) [some (envD pr re ps), some (rowD g al), some (.int mo), some s, some (.int pr), some (.int re), some (phsD ps), x7, x8, x9] S = some (.nx [some (envD pr re ps), some (rowD g al), some (.int mo), some s, some (.int pr), some (.int re), some (phsD ps), some (.int c), some (.int p), x9] S) := fun S => by simp
    have tl : ∀ (S : Store), asgT G (callK G T (kl + 5)) (.name 4) (.int c) [some (envD pr re ps), some (rowD g al), some (.int mo), some w, y4, y5] S = some (.nx [some (envD pr re ps), some (rowD g al), some (.int mo), some w, some (.int c), y5] S) := fun S => by simp
    by_cases hpm : p ≤ mo
    · have hm : t ≤ mt g p := hts p (by simp)
      have gm : Gr (60 * L) (mt g p) := by
        obtain ⟨v, hv⟩ := hv
        have := (mt_gr hg p).up (60 * v)
        rwa [Nat.mul_assoc, ← hv] at this
      have hm2 : mt g p ≤ 100 := mt_100 hg (by omega)
      have hm0 : 0 ≤ mt g p := by have := mt_le hg (Nat.zero_le p); rwa [mt_0 hg] at this
      have hk7 : lgt L 790 := lgt_mono hk (by omega)
      obtain ⟨s1, w1, ph, lv, te, g1, g2, g3, es, ew⟩ := sy_at k kl hz GP hL (lgt_mono hk7 (by decide)) gm hm2 sy hm
      have hi : (if c % 2 = 1 then re else pr) < ps.length := by split <;> assumption
      obtain ⟨s2, w2, sy2, eb, el⟩ := sy_press k kl hz GP hL hk7 gm hm0 hm2 g1 g2 g3 hi
      obtain ⟨s', w', L', t', x7', x8', x9', y4', y5', r1, r2, r3, r4, r5, r6, r7⟩ := row_loop k kl hz GP hg hg3 hpr hre hmo rest (c + 1) (60 * L) (mt g p) s2 w2 hal2 hpw2.2 sy2 (mt_le hg hpm) (fun q hq => mt_le hg (hpw2.1 q hq)) (by omega) (by obtain ⟨v, hv⟩ := hv; exact ⟨60 * v, by rw [hv, Nat.mul_assoc]⟩) (lgt_mono (lgt_mul (show lgt 60 6 by unfold lgt; decide) hk) (by omega)) hcl
        (some (.int c)) (some (.int p)) (some s1) (some (.int c)) (some (frD (mt g p)))
      refine ⟨s', w', L', t', x7', x8', x9', y4', y5', r1, r2, r3, r4, r5, ?_, ?_⟩
      · refine loopF_more (tp []) ?_ r6
        have lo := lowest_ok (k + 5) [] (p : Int) g hg hg3
        refine ex_then (S1 := []) (S' := []) (ρ' := [some (envD pr re ps), some (rowD g al), some (.int mo), some s2, some (.int pr), some (.int re), some (phsD ps), some (.int c), some (.int p), some s1]) (by simp [hpm]) ?_ (execs_nil)
        have a1 : evalE G (callK G T (k + 6)) (.call i_state_at [.var 6, .var 3, .call i_lowest [.var 8, .idx (.var 1) (.int 0)]]) [some (envD pr re ps), some (rowD g al), some (.int mo), some s, some (.int pr), some (.int re), some (phsD ps), some (.int c), some (.int p), x9] [] = some (.ok s1 []) :=
          call3_ev (by simp) (by simp) (call2_ev (by simp) (by simp [idx_row0]) lo) (es [])
        refine ex_nx (asg_ev a1) ?_
        have a2 : evalE G (callK G T (k + 6)) (.ife (.v (.cmp .eq (.bin .mod (.var 7) (.int 2)) (.int 1))) (.var 5) (.var 4)) [some (envD pr re ps), some (rowD g al), some (.int mo), some s, some (.int pr), some (.int re), some (phsD ps), some (.int c), some (.int p), some s1] [] = some (.ok (.int ((if c % 2 = 1 then re else pr : Nat) : Int)) []) := by
          by_cases h2 : c % 2 = 1
          · have h3 : (c : Int) % 2 = 1 := by omega
            simp [h3, h2]
          · have h3 : ¬ ((c : Int) % 2 = 1) := by omega
            simp [h3, h2]
        have a3 : evalE G (callK G T (k + 6)) (.call i_begun_phase [.var 6, .idx (.var 9) (.int 0), .ife (.v (.cmp .eq (.bin .mod (.var 7) (.int 2)) (.int 1))) (.var 5) (.var 4), .idx (.var 9) (.int 2)]) [some (envD pr re ps), some (rowD g al), some (.int mo), some s, some (.int pr), some (.int re), some (phsD ps), some (.int c), some (.int p), some s1] [] = some (.ok s2 []) :=
          call4_ev (by simp) (by simp [te.s0]) a2 (by simp [te.s2]) (eb [])
        exact ex_nx (asg_ev a3) execs_nil
      · refine loopF_more (tl []) ?_ r7
        have lo := low_ok (kl + 4) [] (p : Int) g hg hg3
        refine ex_then (S1 := []) (S' := []) (ρ' := [some (envD pr re ps), some (rowD g al), some (.int mo), some w2, some (.int c), some (frD (mt g p))]) (by simp [hpm, idx_row1, hix]) ?_ (execs_nil)
        refine ex_nx (asg_ev (call2_ev (by simp [idx_row1, hix]) (by simp [idx_row0]) lo)) ?_
        refine ex_nx (asg_ev (call3_ev (x := phsD ps) (y := w) (z := frD (mt g p)) (by simp [idx_env2]) (by simp) (by simp; rfl) (ew []))) ?_
        have a2 : evalE G (callK G T (kl + 5)) (.idx (.var 0) (.bin .mod (.var 4) (.int 2))) [some (envD pr re ps), some (rowD g al), some (.int mo), some w1, some (.int c), some (frD (mt g p))] [] = some (.ok (.int ((if c % 2 = 1 then re else pr : Nat) : Int)) []) := by
          by_cases h2 : c % 2 = 1
          · have h3 : (c : Int) % 2 = 1 := by omega
            simp [h3, h2, idx_env1]
          · have h3 : (c : Int) % 2 = 0 := by omega
            simp [h3, h2, idx_env0]
        exact ex_nx (asg_ev (call4_ev (x := phsD ps) (z := frD lv) (v := frD (mt g p)) (by simp [idx_env2]) a2 (by simp [te.w2]) (by simp; rfl) (el []))) execs_nil
    · obtain ⟨s', w', L', t', x7', x8', x9', y4', y5', r1, r2, r3, r4, r5, r6, r7⟩ := row_loop k kl hz GP hg hg3 hpr hre hmo rest (c + 1) L t s w hal2 hpw2.2 sy ht (fun q hq => hts q (by simp [hq])) hL hv (lgt_mono hk (by omega)) hcl
        (some (.int c)) (some (.int p)) x9 (some (.int c)) y5
      refine ⟨s', w', L', t', x7', x8', x9', y4', y5', r1, r2, r3, r4, r5, ?_, ?_⟩
      · refine loopF_more (tp []) ?_ r6
        exact ex_else (S1 := []) (by simp [hpm]) execs_nil
      · refine loopF_more (tl []) ?_ r7
        exact ex_else (S1 := []) (by simp [hpm, idx_row1, hix]) execs_nil
theorem pbody_eq : m_state_in.body = [.asg (.tup [.name 4, .name 5, .name 6]) (.var 0), .asg (.name 3) (.call i_first_state []), .forS (.tup [.name 7, .name 8]) (.enm (.idx (.var 1) (.int 1))) pbody,
    .ret (.call i_state_at [.var 6, .var 3, .call i_lowest [.var 2, .idx (.var 1) (.int 0)]])] := nr rfl
theorem lbody_eq : m_law_at.body = [.asg (.name 3) (.dispS [[112, 104, 97, 115, 101], [108, 101, 118, 101, 108], [99, 108, 111, 99, 107], [101, 110, 100]] [.non, .tup [.int 0, .int 1], .tup [.int 0, .int 1], .non]), .forS (.name 4) (.rng [.callB .len [.idx (.var 1) (.int 1)]]) lbody,
    .ret (.call i_law_led [.idx (.var 0) (.int 2), .var 3, .call i_law_low [.var 2, .idx (.var 1) (.int 0)]])] := nr rfl
theorem first_ok (k : Nat) (S : Store) : callK G T (k + 2) i_first_state [] S = some (.ok (st0 0 0) S) := nr rfl
theorem rng1 (n : Nat) (h : n < 1000) : rngD [.int (n : Int)] = some (0, 1, n) := by
  show (if b62 (n : Int) then some ((0 : Int), (1 : Int), (n : Int).toNat) else none) = _
  have : b62 (n : Int) = true := by unfold b62; simp; omega
  rw [if_pos this]; simp
theorem exec_forV {C : CallF} {t : MT} {it : MI} {b : List MS} {ρ ρ' : Env} {S S1 S' : Store} {xs : List D} (h : evalI G C it ρ S = some (.ok xs S1)) (h2 : loopF (fun d ρ S => asgT G C t d ρ S) (fun ρ S => execs G C b ρ S) xs ρ S1 = some (.nx ρ' S')) : exec G C (.forS t it b) ρ S = some (.nx ρ' S') := by
  rw [exec_for, h]; exact h2
/-- both at a moment of a row -/
theorem at_ok (k kl : Nat) {ps : List Ph} {z : Nat} (hz : z ≤ bigN) (GP : GoodP ps z) {g : Nat} (hg : 0 < g) (hg1 : lgt g 20) {pr re mo : Nat} (hpr : pr < ps.length) (hre : re < ps.length) (hmo : mo ≤ 100 * g) {al : List Nat} (hpw : al.Pairwise (· ≤ ·)) (hal : al.length ≤ 90) :
    ∃ s' w' ph lv, Tell (mt g mo) s' w' ph lv ∧ (∀ S, callK G T (k + 7) i_state_in [envD pr re ps, rowD g al, .int mo] S = some (.ok s' S)) ∧ (∀ S, callK G T (kl + 6) i_law_at [envD pr re ps, rowD g al, .int mo] S = some (.ok w' S)) := by
  have hg3 : lgt g 3000 := lgt_mono hg1 (by decide)
  have h0 : ∀ q, (0 : Rat) ≤ mt g q := fun q => by have := mt_le hg (Nat.zero_le q); rwa [mt_0 hg] at this
  obtain ⟨s1, w1, L, t, x7, x8, x9, y4, y5, r1, r2, r3, r4, r5, r6, r7⟩ := row_loop k kl hz GP hg hg3 hpr hre hmo (al := al) al 0 g 0 _ _ (fun j => by rw [Nat.zero_add]) hpw .none (h0 mo) (fun p _ => h0 p) hg ⟨1, by omega⟩ hg1 (by omega) none none none none none
  have gm : Gr (60 * L) (mt g mo) := by
    obtain ⟨v, hv⟩ := r4
    have := (mt_gr hg mo).up (60 * v)
    rwa [Nat.mul_assoc, ← hv] at this
  obtain ⟨s', w', ph, lv, te, g1, g2, g3, es, ew⟩ := sy_at k kl hz GP r3 (lgt_mono r5 (by decide)) gm (mt_100 hg hmo) r1 r2
  refine ⟨s', w', ph, lv, te, fun S => ?_, fun S => ?_⟩
  · refine call_pure (d := m_state_in) rfl rfl rfl (by simp [pure_env, pure_row]) te.ps (S1 := []) (run_ret ?_)
    show execs G (callK G T (k + 6)) m_state_in.body [some (envD pr re ps), some (rowD g al), some (.int mo), none, none, none, none, none, none, none] [] = _
    rw [pbody_eq]
    refine ex_nx (ρ' := [some (envD pr re ps), some (rowD g al), some (.int mo), none, some (.int pr), some (.int re), some (phsD ps), none, none, none]) (S' := []) (by simp [envD]) ?_
    refine ex_nx (ρ' := [some (envD pr re ps), some (rowD g al), some (.int mo), some (st0 0 0), some (.int pr), some (.int re), some (phsD ps), none, none, none]) (S' := []) (asg_ev (by rw [evalE_call, evalEs_nil, bnd_okS]; exact first_ok (k + 4) [])) ?_
    refine ex_nx (exec_forV (xs := enumL 0 (intsD al)) (S1 := []) (by simp [idx_row1]) r6) ?_
    have lo := lowest_ok (k + 5) [] (mo : Int) g hg hg3
    rw [execs_cons, exec_ret, call3_ev (by simp) (by simp) (call2_ev (by simp) (by simp [idx_row0]) lo) (es [])]
    rfl
  · refine call_pure (d := m_law_at) rfl rfl rfl (by simp [pure_env, pure_row]) te.pw (S1 := []) (run_ret ?_)
    show execs G (callK G T (kl + 5)) m_law_at.body [some (envD pr re ps), some (rowD g al), some (.int mo), none, none, none] [] = _
    rw [lbody_eq]
    refine ex_nx (ρ' := [some (envD pr re ps), some (rowD g al), some (.int mo), some lawN0, none, none]) (S' := []) (nr rfl) ?_
    refine ex_nx (exec_forV (xs := rangeL ((0 : Nat) : Int) 1 al.length) (S1 := []) ?_ r7) ?_
    · have := rng1 al.length (by omega)
      simp [idx_row1, intsD, this]
    have lo := low_ok (kl + 4) [] (mo : Int) g hg hg3
    rw [execs_cons, exec_ret, call3_ev (x := phsD ps) (z := frD (mt g mo)) (by simp [idx_env2]) (by simp) (call2_ev (by simp) (by simp [idx_row0]) lo) (ew [])]
    rfl
end K02
end
section
set_option linter.all false
set_option maxRecDepth 100000
set_option maxHeartbeats 2000000
set_option exponentiation.threshold 5000
set_option autoImplicit false
namespace K02
open KL
def nxt (ps : List Ph) (i : Nat) : Option Nat := (ps[i]?).bind Ph.next
/-- k phases later -/
def it (ps : List Ph) (i : Nat) : Nat → Option Nat
  | 0 => some i
  | k + 1 => (it ps i k).bind (nxt ps)
/-- the second phase takes time behind the first -/
def mv (p q : Ph) : Bool := match q with
  | .hold _ _ => true
  | .go g _ _ => match p with
    | .go h _ _ => h != g
    | .jump h _ => h != g
    | _ => false
  | _ => false
def MvAt (ps : List Ph) (i k : Nat) : Prop := ∃ a b p q, it ps i k = some a ∧ it ps i (k + 1) = some b ∧ ps[a]? = some p ∧ ps[b]? = some q ∧ mv p q = true
def RingMv (ps : List Ph) (i : Nat) : Prop := (∃ k, it ps i k = none) ∨ ∃ k, ps.length ≤ k ∧ MvAt ps i k
structure GoodR (ps : List Ph) : Prop where
  l1 : 1 ≤ ps.length
  l6 : ps.length ≤ 6
  gp : ∀ (i : Nat) (p : Ph), ps[i]? = some p → gph ps.length p
  rm : ∀ i, i < ps.length → RingMv ps i
theorem it_add (ps : List Ph) (i a : Nat) : ∀ b, it ps i (a + b) = (it ps i a).bind fun j => it ps j b
  | 0 => by simp [it]
  | b + 1 => by
    show (it ps i (a + b)).bind (nxt ps) = _
    rw [it_add ps i a b]
    cases it ps i a <;> rfl
theorem it_none {ps : List Ph} {i k : Nat} (h : it ps i k = none) (m : Nat) (hm : k ≤ m) : it ps i m = none := by
  obtain ⟨d, rfl⟩ : ∃ d, m = k + d := ⟨m - k, by omega⟩
  rw [it_add, h]; rfl
theorem php : ∀ (n : Nat) (l : List Nat), l.Nodup → (∀ x ∈ l, x < n) → l.length ≤ n
  | 0, l, _, h => by
    cases l with
    | nil => simp
    | cons x l => exact absurd (h x (by simp)) (by omega)
  | n + 1, l, hn, h => by
    have h2 := php n (l.erase n) (hn.erase n) (fun x hx => by
      have h3 := (hn.mem_erase_iff).1 hx
      have := h x h3.2
      have := h3.1
      omega)
    have h4 := List.length_erase (a := n) (l := l)
    split at h4 <;> omega
theorem it_lt {ps : List Ph} (gp : ∀ (i : Nat) (p : Ph), ps[i]? = some p → gph ps.length p) {i : Nat} (hi : i < ps.length) : ∀ {k a : Nat}, it ps i k = some a → a < ps.length
  | 0, a, h => by cases h; exact hi
  | k + 1, a, h => by
    have h : (it ps i k).bind (nxt ps) = some a := h
    cases h1 : it ps i k with
    | none => rw [h1] at h; cases h
    | some b =>
      rw [h1] at h
      have h : (ps[b]?).bind Ph.next = some a := h
      cases h2 : ps[b]? with
      | none => rw [h2] at h; cases h
      | some p =>
        rw [h2] at h
        have g := gp b p h2
        cases p with
        | stay => cases h
        | go g r n => cases h; exact g.2.2.2
        | hold s n => cases h; exact g.2.2
        | jump g n => cases h; exact g.2
theorem it_php {ps : List Ph} (gp : ∀ (i : Nat) (p : Ph), ps[i]? = some p → gph ps.length p) {i : Nat} (hi : i < ps.length) (hn : ∀ k, it ps i k ≠ none) : ∃ s m y, s < m ∧ m ≤ ps.length ∧ it ps i s = some y ∧ it ps i m = some y := by
  have key : ∀ m, (∃ s' m' y, s' < m' ∧ m' < m ∧ it ps i s' = some y ∧ it ps i m' = some y) ∨ ∃ l : List Nat, l.length = m ∧ l.Nodup ∧ ∀ x ∈ l, ∃ k, k < m ∧ it ps i k = some x := by
    intro m
    induction m with
    | zero => exact .inr ⟨[], rfl, by simp, by simp⟩
    | succ m ih =>
      rcases ih with ⟨s', m', y, h1, h2, h3⟩ | ⟨l, h1, h2, h3⟩
      · exact .inl ⟨s', m', y, h1, by omega, h3⟩
      · cases hm : it ps i m with
        | none => exact absurd hm (hn m)
        | some y =>
          by_cases hy : y ∈ l
          · obtain ⟨k, k1, k2⟩ := h3 y hy
            exact .inl ⟨k, m, y, k1, by omega, k2, hm⟩
          · refine .inr ⟨y :: l, by simp [h1], by simp [hy, h2], ?_⟩
            intro x hx
            rcases List.mem_cons.1 hx with rfl | hx
            · exact ⟨m, by omega, hm⟩
            · obtain ⟨k, k1, k2⟩ := h3 x hx
              exact ⟨k, by omega, k2⟩
  rcases key (ps.length + 1) with ⟨s', m', y, h1, h2, h3⟩ | ⟨l, h1, h2, h3⟩
  · exact ⟨s', m', y, h1, by omega, h3.1, h3.2⟩
  · have := php ps.length l h2 (fun x hx => by obtain ⟨k, _, k2⟩ := h3 x hx; exact it_lt gp hi k2)
    omega
theorem it_per {ps : List Ph} {i s m y : Nat} (h1 : it ps i s = some y) (h2 : it ps i m = some y) (hs : s < m) (k : Nat) (hk : s ≤ k) : it ps i (k + (m - s)) = it ps i k := by
  obtain ⟨d, rfl⟩ : ∃ d, k = s + d := ⟨k - s, by omega⟩
  have e : s + d + (m - s) = m + d := by omega
  rw [e, it_add, it_add, h1, h2]
theorem it_pers {ps : List Ph} {i s m y : Nat} (h1 : it ps i s = some y) (h2 : it ps i m = some y) (hs : s < m) (k : Nat) (hk : s ≤ k) : ∀ q, it ps i (k + q * (m - s)) = it ps i k
  | 0 => by simp
  | q + 1 => by
    have e : k + (q + 1) * (m - s) = (k + q * (m - s)) + (m - s) := by rw [Nat.succ_mul]; omega
    rw [e, it_per h1 h2 hs _ (by omega)]
    exact it_pers h1 h2 hs k hk q
theorem MvAt.per {ps : List Ph} {i s m y : Nat} (h1 : it ps i s = some y) (h2 : it ps i m = some y) (hs : s < m) {k q : Nat} (hk : s ≤ k) : MvAt ps i (k + q * (m - s)) ↔ MvAt ps i k := by
  have e1 := it_pers h1 h2 hs k hk q
  have e2 := it_pers h1 h2 hs (k + 1) (by omega) q
  have e3 : k + 1 + q * (m - s) = k + q * (m - s) + 1 := by omega
  rw [e3] at e2
  unfold MvAt
  rw [e1, e2]
/-- a pair that moves, in a given stretch of one ring's length -/
theorem MvAt.at {ps : List Ph} {i s m y : Nat} (h1 : it ps i s = some y) (h2 : it ps i m = some y) (hs : s < m) {k : Nat} (hk : s ≤ k) (h : MvAt ps i k) (from_ : Nat) (hf : s ≤ from_) : ∃ k', from_ ≤ k' ∧ k' < from_ + (m - s) ∧ MvAt ps i k' := by
  have hd : 0 < m - s := by omega
  have up : MvAt ps i (k + from_ * (m - s)) := (MvAt.per h1 h2 hs hk).2 h
  have hge : from_ ≤ k + from_ * (m - s) := by have := Nat.le_mul_of_pos_right from_ hd; omega
  refine ⟨from_ + (k + from_ * (m - s) - from_) % (m - s), by omega, by have := Nat.mod_lt (k + from_ * (m - s) - from_) hd; omega, ?_⟩
  rw [← MvAt.per (q := (k + from_ * (m - s) - from_) / (m - s)) h1 h2 hs (by omega)]
  have e : from_ + (k + from_ * (m - s) - from_) % (m - s) + (k + from_ * (m - s) - from_) / (m - s) * (m - s) = k + from_ * (m - s) := by
    have := Nat.mod_add_div (k + from_ * (m - s) - from_) (m - s)
    rw [Nat.mul_comm (m - s) ((k + from_ * (m - s) - from_) / (m - s))] at this
    omega
  rw [e]
  exact up
/-- phases without time, one after another -/
theorem begN_chain {ps : List Ph} : ∀ {n i : Nat} {l : Rat}, begN ps n i l = none → (∀ k, it ps i k ≠ none) → (∀ k a, it ps i k = some a → a < ps.length) → ∀ k, k + 1 < n → ¬ MvAt ps i k
  | 0, i, l, h, hn, hl, k, hk => by omega
  | n + 1, i, l, h, hn, hl, k, hk => by
    unfold begN at h
    cases hp : ps[i]? with
    | none =>
      have := hl 0 i rfl
      rw [List.getElem?_eq_none_iff] at hp
      omega
    | some p =>
      rw [hp] at h
      dsimp only at h
      cases hz : p.zero l with
      | none => rw [hz] at h; cases h
      | some gj =>
        obtain ⟨g, j⟩ := gj
        rw [hz] at h
        dsimp only at h
        have hj : it ps i 1 = some j := by
          show (some i).bind (nxt ps) = some j
          show (ps[i]?).bind Ph.next = some j
          rw [hp]
          cases p with
          | stay => cases hz
          | hold s n => cases hz
          | jump g' n => cases hz; rfl
          | go g' r n =>
            by_cases e : l = (g' : Rat)
            · simp only [Ph.zero, if_pos e] at hz; cases hz; rfl
            · simp only [Ph.zero, if_neg e] at hz; cases hz
        have hs : ∀ k, it ps i (k + 1) = it ps j k := fun k => by rw [Nat.add_comm, it_add, hj]; rfl
        cases k with
        | succ k =>
          intro hm
          have ih := begN_chain h (fun k => by rw [← hs]; exact hn _) (fun k a ha => hl (k + 1) a (by rw [hs]; exact ha)) k (by omega)
          apply ih
          obtain ⟨a, b, p', q', m1, m2, m3⟩ := hm
          exact ⟨a, b, p', q', by rw [← hs]; exact m1, by rw [← hs]; exact m2, m3⟩
        | zero =>
          rintro ⟨a, b, p', q, m1, m2, m3, m4, m5⟩
          cases m1
          rw [hj] at m2
          cases m2
          have e := Option.some.inj (hp.symm.trans m3)
          subst e
          obtain ⟨n, rfl⟩ : ∃ n', n = n' + 1 := ⟨n - 1, by omega⟩
          unfold begN at h
          rw [m4] at h
          dsimp only at h
          have hg : ∀ r n, q = .go g r n → False := by
            intro r n e
            subst e
            have : mv p (.go g r n) = false := by
              cases p with
              | stay => cases hz
              | hold s n => cases hz
              | jump g' n => cases hz; simp [mv]
              | go g' r n =>
                by_cases e : l = (g' : Rat)
                · simp only [Ph.zero, if_pos e] at hz; cases hz; simp [mv]
                · simp only [Ph.zero, if_neg e] at hz; cases hz
            rw [this] at m5; cases m5
          cases q with
          | stay => cases m5
          | jump g' n => cases m5
          | hold s n => cases h
          | go g' r n' =>
            by_cases e : (g : Rat) = (g' : Rat)
            · have e2 : g = g' := by rwa [Rat.natCast_inj] at e
              subst e2
              exact hg r n' rfl
            · simp only [Ph.zero, if_neg e] at h; cases h
theorem zero_stay {ps : List Ph} : ∀ {n i k : Nat} {l : Rat}, it ps i k = none → (∀ k a, it ps i k = some a → a < ps.length) → k ≤ n → begN ps n i l ≠ none
  | n, i, 0, l, h, hl, hk => by cases h
  | 0, i, k + 1, l, h, hl, hk => by omega
  | n + 1, i, k + 1, l, h, hl, hk => by
    unfold begN
    cases hp : ps[i]? with
    | none =>
      have := hl 0 i rfl
      rw [List.getElem?_eq_none_iff] at hp
      omega
    | some p =>
      dsimp only
      cases hz : p.zero l with
      | none => simp
      | some gj =>
        obtain ⟨g, j⟩ := gj
        have hj : it ps i 1 = some j := by
          show (some i).bind (nxt ps) = some j
          show (ps[i]?).bind Ph.next = some j
          rw [hp]
          cases p with
          | stay => cases hz
          | hold s n => cases hz
          | jump g' n => cases hz; rfl
          | go g' r n =>
            by_cases e : l = (g' : Rat)
            · simp only [Ph.zero, if_pos e] at hz; cases hz; rfl
            · simp only [Ph.zero, if_neg e] at hz; cases hz
        have hs : ∀ k, it ps i (k + 1) = it ps j k := fun k => by rw [Nat.add_comm, it_add, hj]; rfl
        exact zero_stay (k := k) (by rw [← hs]; exact h) (fun k a ha => hl (k + 1) a (by rw [hs]; exact ha)) (by omega)
/-- the walk ends within the number of phases -/
theorem it_end {ps : List Ph} (gp : ∀ (i : Nat) (p : Ph), ps[i]? = some p → gph ps.length p) {i k : Nat} (hi : i < ps.length) (h : it ps i k = none) : it ps i ps.length = none := by
  cases hx : it ps i ps.length with
  | none => rfl
  | some x =>
    exfalso
    have hsome : ∀ j, j ≤ ps.length → it ps i j ≠ none := fun j hj e => by rw [it_none e _ hj] at hx; cases hx
    have key : ∀ m, m ≤ ps.length + 1 → (∃ s' m' y, s' < m' ∧ m' < m ∧ it ps i s' = some y ∧ it ps i m' = some y) ∨ ∃ l : List Nat, l.length = m ∧ l.Nodup ∧ ∀ x ∈ l, ∃ k, k < m ∧ it ps i k = some x := by
      intro m
      induction m with
      | zero => intro _; exact .inr ⟨[], rfl, by simp, by simp⟩
      | succ m ih =>
        intro hle
        rcases ih (by omega) with ⟨s', m', y, h1, h2, h3⟩ | ⟨l, h1, h2, h3⟩
        · exact .inl ⟨s', m', y, h1, by omega, h3⟩
        · cases hm : it ps i m with
          | none => exact absurd hm (hsome m (by omega))
          | some y =>
            by_cases hy : y ∈ l
            · obtain ⟨k, k1, k2⟩ := h3 y hy
              exact .inl ⟨k, m, y, k1, by omega, k2, hm⟩
            · refine .inr ⟨y :: l, by simp [h1], by simp [hy, h2], ?_⟩
              intro x hx
              rcases List.mem_cons.1 hx with rfl | hx
              · exact ⟨m, by omega, hm⟩
              · obtain ⟨k, k1, k2⟩ := h3 x hx
                exact ⟨k, by omega, k2⟩
    rcases key (ps.length + 1) (by omega) with ⟨s', m', y, h1, h2, h3, h4⟩ | ⟨l, h1, h2, h3⟩
    · have hper := it_pers h3 h4 h1 s' (by omega) k
      have hge : k ≤ s' + k * (m' - s') := by have := Nat.le_mul_of_pos_right k (show 0 < m' - s' by omega); omega
      rw [it_none h _ hge, h3] at hper
      cases hper
    · have := php ps.length l h2 (fun x hx => by obtain ⟨k, _, k2⟩ := h3 x hx; exact it_lt gp hi k2)
      omega
theorem GoodR.goodP {ps : List Ph} (h : GoodR ps) : GoodP ps 20 := by
  refine ⟨h.gp, fun i l hi => ?_⟩
  cases hb : begN ps 20 i l with
  | some r => exact ⟨r.1, r.2, rfl⟩
  | none =>
    exfalso
    have l6 := h.l6
    have hl : ∀ k a, it ps i k = some a → a < ps.length := fun k a => it_lt h.gp hi
    by_cases hn : ∃ k, it ps i k = none
    · obtain ⟨k, hk⟩ := hn
      exact zero_stay (it_end h.gp hi hk) hl (by omega) hb
    · have hn2 : ∀ k, it ps i k ≠ none := fun k e => hn ⟨k, e⟩
      obtain ⟨s, m, y, h1, h2, h3, h4⟩ := it_php h.gp hi hn2
      rcases h.rm i hi with ⟨k, hk⟩ | ⟨k, hk, hm⟩
      · exact hn2 k hk
      · obtain ⟨k', k1, k2, k3⟩ := MvAt.at h3 h4 h1 (by omega) hm s (by omega)
        exact begN_chain hb hn2 hl k' (by omega) k3
end K02
end
section
set_option linter.all false
set_option maxRecDepth 100000
set_option maxHeartbeats 2000000
set_option exponentiation.threshold 5000
set_option autoImplicit false
namespace K02
open KL
theorem eqD_int (i j : Int) : eqD (.int i) (.int j) = some (i == j) := nr rfl
theorem memL_ints (a : Nat) : ∀ l : List Nat, memL (.int a) (intsD l) = some (decide (a ∈ l))
  | [] => by simp [intsD, memL]
  | y :: l => by
    have ih := memL_ints a l
    show (match eqD (.int (y : Int)) (.int (a : Int)), memL (.int a) (intsD l) with
      | some a, some b => some (a || b)
      | _, _ => none) = _
    rw [eqD_int, ih]
    by_cases h : a = y
    · subst h; simp
    · have h2 : ¬ ((y : Int) = (a : Int)) := by omega
      simp [h, h2]
theorem firstIx_ints (a : Nat) : ∀ l : List Nat, a ∈ l → ∃ s, firstIx (.int a) (intsD l) = some s ∧ l[s]? = some a
  | [], h => by cases h
  | y :: l, h => by
    have e : firstIx (.int a) (intsD (y :: l)) = (match eqD (.int (y : Int)) (.int (a : Int)) with
      | some true => some 0
      | some false => (firstIx (.int a) (intsD l)).map (· + 1)
      | none => none) := rfl
    rw [e, eqD_int]
    by_cases hy : y = a
    · subst hy; exact ⟨0, by simp, rfl⟩
    · have h2 : ((y : Int) == (a : Int)) = false := by simp; omega
      obtain ⟨s, s1, s2⟩ := firstIx_ints a l (by rcases List.mem_cons.1 h with h | h; exact absurd h.symm hy; exact h)
      exact ⟨s + 1, by rw [h2]; simp [s1], s2⟩
theorem view_ref (l : List Nat) : view [.lst (intsD l)] (.ref 0) = .lst (intsD l) := nr rfl
theorem notin_ref (a : Nat) (l : List Nat) : cmpD .notin (.int a) (.ref 0) [.lst (intsD l)] = some (!decide (a ∈ l)) := by
  have e : cmpD .notin (.int a) (.ref 0) [.lst (intsD l)] = (match memL (.int a) (intsD l) with
    | some b => some (!b)
    | none => none) := rfl
  rw [e, memL_ints]
theorem isin_ref (a : Nat) (l : List Nat) : cmpD .isin (.int a) (.ref 0) [.lst (intsD l)] = some (decide (a ∈ l)) := by
  have e : cmpD .isin (.int a) (.ref 0) [.lst (intsD l)] = memL (.int a) (intsD l) := rfl
  rw [e, memL_ints]
theorem app_ref (l : List Nat) (a : Nat) (h : l.length < 100) : appD (.ref 0) (.int a) [.lst (intsD l)] = some (.ok .non [.lst (intsD (l ++ [a]))]) := by
  have e : appD (.ref 0) (.int a) [.lst (intsD l)] = if (intsD l).length < lineN then some (.ok .non [.lst (intsD l ++ [.int a])]) else none := rfl
  have h2 : (intsD l).length < lineN := by unfold intsD lineN; rw [List.length_map]; omega
  rw [e, if_pos h2]
  simp [intsD]
theorem isL_ref (l : List D) : isLstRef (.ref 0) [.lst l] = true := nr rfl
theorem idx_last {p : Ph} {j : Nat} (h : p.next = some j) (S : Store) : idxD (phD p) (.int (-1)) S = some (.int j) := by
  cases p with
  | stay => cases h
  | go g r n => cases h; exact nr rfl
  | hold s n => cases h; exact nr rfl
  | jump g n => cases h; exact nr rfl
theorem word_stay (p : Ph) : (p.word == [115, 116, 97, 121]) = decide (p.next = none) := by cases p <;> simp [Ph.word, Ph.next]
theorem exec_whlV {C : CallF} {q : MQ} {b : List MS} {ρ : Env} {S : Store} {r : Option SR} (h : loopW (fun ρ S => evalT G C q ρ S) (fun ρ S => execs G C b ρ S) bigN ρ S = r) : exec G C (.whl q b) ρ S = r := by
  rw [exec_whl]; exact h
def rq : MQ := .and [.v (.cmp .ne (.idx (.idx (.var 0) (.var 1)) (.int 0)) (.str [115, 116, 97, 121])), .v (.cmp .notin (.var 1) (.var 2))]
def rb : List MS := [
    .expr (.append (.var 2) (.var 1)), 
    .asg (.name 1) (.idx (.idx (.var 0) (.var 1)) (.neg (.int 1)))]
theorem it_len {ps : List Ph} (gp : ∀ (i : Nat) (p : Ph), ps[i]? = some p → gph ps.length p) {i : Nat} (hi : i < ps.length) {l : List Nat} (hd : ∀ k x, l[k]? = some x → it ps i k = some x) (hn : l.Nodup) : l.length ≤ ps.length :=
  php _ l hn fun x hx => by
    obtain ⟨k, hk⟩ := List.getElem?_of_mem hx
    exact it_lt gp hi (hd k x hk)
theorem ring_loop {C : CallF} {ps : List Ph} (gp : ∀ (i : Nat) (p : Ph), ps[i]? = some p → gph ps.length p) (l6 : ps.length ≤ 6) {i : Nat} (hi : i < ps.length) : ∀ (f : Nat) (l : List Nat) (a : Nat), it ps i l.length = some a → (∀ k x, l[k]? = some x → it ps i k = some x) → l.Nodup → ps.length < f + l.length →
    ∃ l' a', it ps i l'.length = some a' ∧ (∀ k x, l'[k]? = some x → it ps i k = some x) ∧ (a' ∈ l' ∨ nxt ps a' = none) ∧ l'.length ≤ 6 ∧
      loopW (fun ρ S => evalT G C rq ρ S) (fun ρ S => execs G C rb ρ S) f [some (phsD ps), some (.int a), some (.ref 0)] [.lst (intsD l)] = some (.nx [some (phsD ps), some (.int a'), some (.ref 0)] [.lst (intsD l')])
  | 0, l, a, ha, hd, hn, hf => by have := it_len gp hi hd hn; omega
  | f + 1, l, a, ha, hd, hn, hf => by
    have hlen := it_len gp hi hd hn
    have hal := it_lt gp hi ha
    obtain ⟨p, hp⟩ : ∃ p, ps[a]? = some p := ⟨ps[a], List.getElem?_eq_getElem hal⟩
    have hix := idx_phs hp
    have tst : evalT G C rq [some (phsD ps), some (.int a), some (.ref 0)] [.lst (intsD l)] = some (.ok (!decide (p.next = none) && !decide (a ∈ l)) [.lst (intsD l)]) := by
      have hw := word_stay p
      by_cases c : p.next = none
      · simp [rq, hix, idx_word, hw, c]
      · simp [rq, hix, idx_word, hw, c, notin_ref]
        by_cases c2 : a ∈ l <;> simp [c2]
    have hnx : nxt ps a = p.next := by unfold nxt; rw [hp]; rfl
    by_cases c : p.next = none
    · refine ⟨l, a, ha, hd, .inr (by rw [hnx]; exact c), by omega, loopW_stop ?_⟩
      rw [tst]; simp [c]
    · by_cases c2 : a ∈ l
      · refine ⟨l, a, ha, hd, .inl c2, by omega, loopW_stop ?_⟩
        rw [tst]; simp [c2]
      · obtain ⟨j, hj⟩ := Option.ne_none_iff_exists'.1 c
        have hl2 : (l ++ [a]).length = l.length + 1 := by simp
        have hd2 : ∀ k x, (l ++ [a])[k]? = some x → it ps i k = some x := fun k x hk => by
          rw [List.getElem?_append] at hk
          split at hk
          · exact hd k x hk
          · have : k - l.length = 0 := by
              cases e : k - l.length with
              | zero => rfl
              | succ n => rw [e] at hk; cases hk
            rw [this] at hk
            cases hk
            have e : k = l.length := by omega
            rw [e]; exact ha
        have hn2 : (l ++ [a]).Nodup := by
          rw [List.nodup_append]
          refine ⟨hn, by simp, ?_⟩
          intro x hx y hy
          rw [List.mem_singleton] at hy
          subst hy
          intro e; subst e; exact c2 hx
        obtain ⟨l', a', q1, q2, q3, q5, q4⟩ := ring_loop gp l6 hi f (l ++ [a]) j (by
          rw [hl2]
          show (it ps i l.length).bind (nxt ps) = some j
          rw [ha]; exact hnx.trans hj) hd2 hn2 (by rw [hl2]; omega)
        refine ⟨l', a', q1, q2, q3, q5, ?_⟩
        refine loopW_more (S1 := [.lst (intsD l)]) (S' := [.lst (intsD (l ++ [a]))]) (ρ' := [some (phsD ps), some (.int j), some (.ref 0)]) ?_ ?_ q4
        · rw [tst]; simp [c, c2]
        · have h1 := app_ref l a (by omega)
          simp [rb, isL_ref, h1, hix, idx_last hj]
/-- a ring, as the law finds it -/
theorem law_ring_ok (k : Nat) {ps : List Ph} (gp : ∀ (i : Nat) (p : Ph), ps[i]? = some p → gph ps.length p) (l6 : ps.length ≤ 6) {i : Nat} (hi : i < ps.length) :
    ∃ R : List Nat, (∀ S, callK G T (k + 1) i_law_ring [phsD ps, .int i] S = some (.ok (.lst (intsD R)) S)) ∧ R.length ≤ 6 ∧
      ((R = [] ∧ ∃ k, it ps i k = none) ∨ ∃ s y, 0 < R.length ∧ it ps i s = some y ∧ it ps i (s + R.length) = some y ∧ ∀ k x, R[k]? = some x → it ps i (s + k) = some x) := by
  obtain ⟨l, a, q1, q2, q3, q5, q4⟩ := ring_loop (C := callK G T k) gp l6 hi bigN [] i rfl (by simp) (by simp) (by have := sm_big 10 (by omega); simp; omega)
  have run : ∀ (R : List Nat), evalE G (callK G T k) (.ife (.v (.cmp .isin (.var 1) (.var 2))) (.slc (.var 2) (some (.meth .index (.var 2) [.var 1])) none) (.lst [])) [some (phsD ps), some (.int a), some (.ref 0)] [.lst (intsD l)] = some (.ok (.lst (intsD R)) [.lst (intsD l)]) → ∀ S, callK G T (k + 1) i_law_ring [phsD ps, .int i] S = some (.ok (.lst (intsD R)) S) := by
    intro R hR S
    refine call_pure (d := m_law_ring) rfl rfl rfl (by simp [pure_phs]) (pure_ints R) (S1 := [.lst (intsD l)]) (run_ret ?_)
    show execs G (callK G T k) [.asg (.name 2) (.newL []), .whl rq rb, .ret (.ife (.v (.cmp .isin (.var 1) (.var 2))) (.slc (.var 2) (some (.meth .index (.var 2) [.var 1])) none) (.lst []))] [some (phsD ps), some (.int i), none] [] = _
    refine ex_nx (ρ' := [some (phsD ps), some (.int i), some (.ref 0)]) (S' := [.lst (intsD [])]) (nr rfl) ?_
    refine ex_nx (exec_whlV q4) ?_
    rw [execs_cons, exec_ret, hR]
    rfl
  by_cases c : a ∈ l
  · obtain ⟨s, s1, s2⟩ := firstIx_ints a l c
    have hsl : s < l.length := (List.getElem?_eq_some_iff.1 s2).1
    refine ⟨l.drop s, run _ ?_, by rw [List.length_drop]; omega, .inr ⟨s, a, by rw [List.length_drop]; omega, q2 s a s2, ?_, ?_⟩⟩
    · have hm : mfD .index (.ref 0) [.int a] [.lst (intsD l)] = some (.int s) := by
        have e : mfD .index (.ref 0) [.int a] [.lst (intsD l)] = (if (intsD l).length ≤ lineN then match memL (.int a) (intsD l), firstIx (.int a) (intsD l) with
          | some _, some j => some (.int j)
          | _, _ => none
          else none) := rfl
        have h2 : (intsD l).length ≤ lineN := by unfold intsD lineN; rw [List.length_map]; omega
        rw [e, if_pos h2, memL_ints, s1]
      have hok : mfOk .index (.ref 0) [.lst (intsD l)] = true := nr rfl
      have hcut : cutD (.ref 0) (some (s : Int)) none [.lst (intsD l)] = some (.lst (intsD (l.drop s))) := by
        have e : cutD (.ref 0) (some (s : Int)) none [.lst (intsD l)] = some (.lst (((intsD l).drop (cutIx (intsD l).length 0 (some (s : Int)))).take ((intsD l).length - cutIx (intsD l).length 0 (some (s : Int))))) := rfl
        have e2 : cutIx (intsD l).length 0 (some (s : Int)) = s := by
          unfold cutIx intsD
          dsimp only
          rw [if_neg (by omega), List.length_map]
          simp; omega
        rw [e, e2]
        unfold intsD
        rw [← List.map_drop, List.length_map, List.take_of_length_le (by simp)]
      simp [isin_ref, c, hok, hm, hcut]
    · rw [List.length_drop]
      have e : s + (l.length - s) = l.length := by omega
      rw [e]; exact q1
    · intro k x hk
      rw [List.getElem?_drop] at hk
      exact q2 _ _ hk
  · refine ⟨[], run _ ?_, by simp, .inl ⟨rfl, l.length + 1, ?_⟩⟩
    · have e0 : intsD [] = [] := rfl
      simp [isin_ref, c, e0]
    · show (it ps i l.length).bind (nxt ps) = none
      rw [q1]
      rcases q3 with h | h
      · exact absurd h c
      · exact h
end K02
end
section
set_option linter.all false
set_option maxRecDepth 100000
set_option maxHeartbeats 2000000
set_option exponentiation.threshold 5000
set_option autoImplicit false
namespace K02
open KL
theorem loopF_ret {tg : D → Env → Store → Option SR} {b : Env → Store → Option SR} {x : D} {xs : List D} {ρ ρ1 : Env} {S S1 S2 : Store} {d : D} (h1 : tg x ρ S = some (.nx ρ1 S1)) (h2 : b ρ1 S1 = some (.ret d S2)) : loopF tg b (x :: xs) ρ S = some (.ret d S2) := by
  unfold loopF; rw [h1]; dsimp only; rw [h2]
theorem exec_forR {C : CallF} {t : MT} {i : MI} {b : List MS} {ρ : Env} {S S1 : Store} {xs : List D} {r : Option SR} (h : evalI G C i ρ S = some (.ok xs S1)) (h2 : loopF (fun d ρ S => asgT G C t d ρ S) (fun ρ S => execs G C b ρ S) xs ρ S1 = r) : exec G C (.forS t i b) ρ S = r := by
  rw [exec_for, h]; exact h2
theorem ex_ret {C : CallF} {s : MS} {ss : List MS} {ρ : Env} {S S' : Store} {d : D} (h : exec G C s ρ S = some (.ret d S')) : execs G C (s :: ss) ρ S = some (.ret d S') := by
  rw [execs_cons, h]
theorem ret_ev {C : CallF} {e : ME} {ρ : Env} {S S' : Store} {d : D} (h : evalE G C e ρ S = some (.ok d S')) (ss : List MS) : execs G C (.ret e :: ss) ρ S = some (.ret d S') := by
  rw [execs_cons, exec_ret, h]; rfl
theorem idx_lst {xs : List D} {i : Nat} {p : D} (h : xs[i]? = some p) (S : Store) : idxD (.lst xs) (.int i) S = some p := idx_tup h S
theorem idx_lst1 {xs : List D} {p : D} (h0 : 0 < xs.length) (h : xs[xs.length - 1]? = some p) (S : Store) : idxD (.lst xs) (.int (((0 : Nat) : Int) - 1)) S = some p := by
  show (match ixOf xs.length (((0 : Nat) : Int) - 1) with
    | some j => xs[j]?
    | none => none) = _
  have e : ixOf xs.length (((0 : Nat) : Int) - 1) = some (xs.length - 1) := by
    unfold ixOf
    rw [if_neg (by omega), if_pos (by omega)]
    congr 1
    omega
  rw [e]
  exact h
/-- where a ring's place before is -/
def prv (n : Nat) : Nat → Nat
  | 0 => n - 1
  | j + 1 => j
theorem idx_prv {R : List Nat} {c a : Nat} (hc : c < R.length) (h : R[prv R.length c]? = some a) (S : Store) : idxD (.lst (intsD R)) (.int ((c : Int) - 1)) S = some (.int a) := by
  cases c with
  | zero =>
    refine idx_lst1 (by unfold intsD; rw [List.length_map]; omega) ?_ S
    unfold intsD
    rw [List.length_map, List.getElem?_map]
    have h : R[R.length - 1]? = some a := h
    rw [h]; rfl
  | succ j =>
    have e : ((j + 1 : Nat) : Int) - 1 = (j : Int) := by omega
    rw [e]
    refine idx_lst ?_ S
    unfold intsD
    rw [List.getElem?_map]
    have h : R[j]? = some a := h
    rw [h]; rfl
def mb : List MS := [
    .asg (.name 3) (.idx (.var 0) (.idx (.var 1) (.var 2))), 
    .asg (.name 4) (.idx (.var 0) (.idx (.var 1) (.bin .sub (.var 2) (.int 1)))), 
    .ifS (.v (.cmp .eq (.idx (.var 3) (.int 0)) (.str [104, 111, 108, 100]))) [
      .ret (.bl true)] [], 
    .ifS (.and [.v (.cmp .eq (.idx (.var 3) (.int 0)) (.str [103, 111])), .v (.cmp .isin (.idx (.var 4) (.int 0)) (.tup [.str [103, 111], .str [106, 117, 109, 112]])), .v (.cmp .ne (.idx (.var 4) (.int 1)) (.idx (.var 3) (.int 1)))]) [
      .ret (.bl true)] []]
theorem isin_go (S : Store) : cmpD .isin (.str [103, 111]) (.tup [.str [103, 111], .str [106, 117, 109, 112]]) S = some true := nr rfl
theorem isin_jump (S : Store) : cmpD .isin (.str [106, 117, 109, 112]) (.tup [.str [103, 111], .str [106, 117, 109, 112]]) S = some true := nr rfl
theorem isin_hold (S : Store) : cmpD .isin (.str [104, 111, 108, 100]) (.tup [.str [103, 111], .str [106, 117, 109, 112]]) S = some false := nr rfl
theorem isin_stay (S : Store) : cmpD .isin (.str [115, 116, 97, 121]) (.tup [.str [103, 111], .str [106, 117, 109, 112]]) S = some false := nr rfl
theorem idx_g1 (g r n : Nat) (S : Store) : idxD (phD (.go g r n)) (.int 1) S = some (.int g) := nr rfl
theorem idx_j1 (g n : Nat) (S : Store) : idxD (phD (.jump g n)) (.int 1) S = some (.int g) := nr rfl
theorem idx_h1 (g n : Nat) (S : Store) : idxD (phD (.hold g n)) (.int 1) S = some (.int g) := nr rfl
theorem mb_ok {C : CallF} {ps : List Ph} {R : List Nat} {c a b : Nat} {p q : Ph} (hc : c < R.length) (hb : R[c]? = some b) (ha : R[prv R.length c]? = some a) (hp : ps[a]? = some p) (hq : ps[b]? = some q) (x y : Option D) :
    execs G C mb [some (phsD ps), some (.lst (intsD R)), some (.int c), x, y] [] = if mv p q then some (.ret (.bl true) []) else some (.nx [some (phsD ps), some (.lst (intsD R)), some (.int c), some (phD q), some (phD p)] []) := by
  have h1 : ∀ S, idxD (.lst (intsD R)) (.int c) S = some (.int b) := idx_lst (by unfold intsD; rw [List.getElem?_map, hb]; rfl)
  have h2 := idx_prv hc ha
  have h3 := idx_phs hp
  have h4 := idx_phs hq
  cases q with
  | hold s n => simp [mb, h1, h2, h3, h4, idx_word, Ph.word, mv]
  | stay => simp [mb, h1, h2, h3, h4, idx_word, Ph.word, mv]
  | jump g n => simp [mb, h1, h2, h3, h4, idx_word, Ph.word, mv]
  | go g r n =>
    cases p with
    | hold s n => simp [mb, h1, h2, h3, h4, idx_word, Ph.word, mv, isin_hold]
    | stay => simp [mb, h1, h2, h3, h4, idx_word, Ph.word, mv, isin_stay]
    | jump g' n =>
      by_cases e : g' = g
      · subst e; simp [mb, h1, h2, h3, h4, idx_word, Ph.word, mv, isin_jump, idx_g1, idx_j1]
      · have e2 : ((g' : Int) == (g : Int)) = false := by simp; omega
        simp [mb, h1, h2, h3, h4, idx_word, Ph.word, mv, isin_jump, idx_g1, idx_j1, e, e2]
    | go g' r n =>
      by_cases e : g' = g
      · subst e; simp [mb, h1, h2, h3, h4, idx_word, Ph.word, mv, isin_go, idx_g1]
      · have e2 : ((g' : Int) == (g : Int)) = false := by simp; omega
        simp [mb, h1, h2, h3, h4, idx_word, Ph.word, mv, isin_go, idx_g1, e, e2]
/-- a pair of a ring that moves -/
def PairMv (ps : List Ph) (R : List Nat) : Prop := ∃ c a b p q, c < R.length ∧ R[c]? = some b ∧ R[prv R.length c]? = some a ∧ ps[a]? = some p ∧ ps[b]? = some q ∧ mv p q = true
theorem prv_lt {n c : Nat} (h : c < n) : prv n c < n := by cases c with
  | zero => show n - 1 < n; omega
  | succ j => show j < n; omega
theorem mov_loop {C : CallF} {ps : List Ph} {R : List Nat} (hR : ∀ x ∈ R, x < ps.length) : ∀ (n c : Nat) (x2 x3 x4 : Option D), c + n = R.length →
    (∃ ρ, loopF (fun d ρ S => asgT G C (.name 2) d ρ S) (fun ρ S => execs G C mb ρ S) (rangeL c 1 n) [some (phsD ps), some (.lst (intsD R)), x2, x3, x4] [] = some (.nx ρ [])) ∨
    (PairMv ps R ∧ loopF (fun d ρ S => asgT G C (.name 2) d ρ S) (fun ρ S => execs G C mb ρ S) (rangeL c 1 n) [some (phsD ps), some (.lst (intsD R)), x2, x3, x4] [] = some (.ret (.bl true) []))
  | 0, c, x2, x3, x4, h => .inl ⟨_, rfl⟩
  | n + 1, c, x2, x3, x4, h => by
    have hc : c < R.length := by omega
    have hc2 := prv_lt hc
    have hb := List.getElem?_eq_getElem hc
    have ha := List.getElem?_eq_getElem hc2
    obtain ⟨p, hp⟩ : ∃ p, ps[R[prv R.length c]]? = some p := ⟨_, List.getElem?_eq_getElem (hR _ (List.getElem_mem hc2))⟩
    obtain ⟨q, hq⟩ : ∃ q, ps[R[c]]? = some q := ⟨_, List.getElem?_eq_getElem (hR _ (List.getElem_mem hc))⟩
    have er : rangeL (c : Int) 1 (n + 1) = .int c :: rangeL ((c + 1 : Nat) : Int) 1 n := rfl
    have tl : asgT G C (.name 2) (.int c) [some (phsD ps), some (.lst (intsD R)), x2, x3, x4] [] = some (.nx [some (phsD ps), some (.lst (intsD R)), some (.int c), x3, x4] []) := by simp
    have hm := mb_ok (C := C) hc hb ha hp hq x3 x4
    rw [er]
    by_cases e : mv p q = true
    · rw [if_pos e] at hm
      exact .inr ⟨⟨c, _, _, p, q, hc, hb, ha, hp, hq, e⟩, loopF_ret tl hm⟩
    · rw [if_neg e] at hm
      rcases mov_loop hR n (c + 1) (some (.int c)) (some (phD q)) (some (phD p)) (by omega) with ⟨ρ, h⟩ | ⟨h1, h2⟩
      · exact .inl ⟨ρ, loopF_more tl hm h⟩
      · exact .inr ⟨h1, loopF_more tl hm h2⟩
theorem len_ints (R : List Nat) : (intsD R).length = R.length := by unfold intsD; rw [List.length_map]
theorem law_mov_ok (k : Nat) {ps : List Ph} {R : List Nat} (hR : ∀ x ∈ R, x < ps.length) (h6 : R.length ≤ 6) : ∃ b : Bool, (∀ S, callK G T (k + 1) i_law_is_moving [phsD ps, .lst (intsD R)] S = some (.ok (.bl b) S)) ∧ (b = true → PairMv ps R) := by
  have hr := rng1 R.length (by omega)
  have hi : evalI G (callK G T k) (.rng [.callB .len [.var 1]]) [some (phsD ps), some (.lst (intsD R)), none, none, none] [] = some (.ok (rangeL ((0 : Nat) : Int) 1 R.length) []) := by
    simp [len_ints, hr]
  have hpu : pureDs [phsD ps, .lst (intsD R)] = true := by simp [pure_phs, pure_ints]
  rcases mov_loop (C := callK G T k) hR R.length 0 none none none (by omega) with ⟨ρ, h⟩ | ⟨h1, h2⟩
  · refine ⟨false, fun S => ?_, by intro h; cases h⟩
    refine call_pure (d := m_law_is_moving) rfl rfl rfl hpu rfl (S1 := []) (run_ret ?_)
    exact ex_nx (exec_forR hi h) (ret_ev (by simp) [])
  · refine ⟨true, fun S => ?_, fun _ => h1⟩
    refine call_pure (d := m_law_is_moving) rfl rfl rfl hpu rfl (S1 := []) (run_ret ?_)
    exact ex_ret (exec_forR hi h2)
def gb : List MS := [
    .asg (.name 2) (.call i_law_ring [.idx (.var 0) (.int 2), .var 1]), 
    .ifS (.and [.v (.cmp .ne (.var 2) (.lst [])), .not (.v (.call i_law_is_moving [.idx (.var 0) (.int 2), .var 2]))]) [
      .ret (.bl false)] []]
theorem ne_nil0 (S : Store) : cmpD .ne (.lst (intsD [])) (.lst []) S = some false := nr rfl
theorem ne_nil1 (a : Nat) (R : List Nat) (S : Store) : cmpD .ne (.lst (intsD (a :: R))) (.lst []) S = some true := nr rfl
/-- a ring that moves, as the phases go on -/
theorem ring_mv {ps : List Ph} {i s y : Nat} {R : List Nat} (h0 : 0 < R.length) (h1 : it ps i s = some y) (h2 : it ps i (s + R.length) = some y) (h3 : ∀ k x, R[k]? = some x → it ps i (s + k) = some x) (hm : PairMv ps R) : RingMv ps i := by
  obtain ⟨c, a, b, p, q, hc, hb, ha, hp, hq, hmv⟩ := hm
  have key : ∃ k, s ≤ k ∧ MvAt ps i k := by
    cases c with
    | zero =>
      have e1 := h3 _ _ ha
      have e2 := h3 _ _ hb
      rw [Nat.add_zero, h1] at e2
      refine ⟨s + (R.length - 1), by omega, a, b, p, q, e1, ?_, hp, hq, hmv⟩
      have e : s + (R.length - 1) + 1 = s + R.length := by omega
      rw [e, h2]; exact e2
    | succ j =>
      exact ⟨s + j, by omega, a, b, p, q, h3 _ _ ha, h3 _ _ hb, hp, hq, hmv⟩
  obtain ⟨k, hk, hm⟩ := key
  obtain ⟨k', k1, _, k3⟩ := MvAt.at h1 h2 (by omega) hk hm (s + ps.length) (by omega)
  exact .inr ⟨k', by omega, k3⟩
theorem good_loop (k : Nat) {ps : List Ph} (gp : ∀ (i : Nat) (p : Ph), ps[i]? = some p → gph ps.length p) (l6 : ps.length ≤ 6) (pr re : Nat) : ∀ (n c : Nat) (x1 x2 : Option D), c + n = ps.length →
    (∃ ρ, (∀ i, c ≤ i → i < ps.length → RingMv ps i) ∧ loopF (fun d ρ S => asgT G (callK G T (k + 1)) (.name 1) d ρ S) (fun ρ S => execs G (callK G T (k + 1)) gb ρ S) (rangeL c 1 n) [some (envD pr re ps), x1, x2] [] = some (.nx ρ [])) ∨
    loopF (fun d ρ S => asgT G (callK G T (k + 1)) (.name 1) d ρ S) (fun ρ S => execs G (callK G T (k + 1)) gb ρ S) (rangeL c 1 n) [some (envD pr re ps), x1, x2] [] = some (.ret (.bl false) [])
  | 0, c, x1, x2, h => .inl ⟨_, by intro i h1 h2; omega, rfl⟩
  | n + 1, c, x1, x2, h => by
    obtain ⟨R, r1, r2, r3⟩ := law_ring_ok k gp l6 (show c < ps.length by omega)
    have er : rangeL (c : Int) 1 (n + 1) = .int c :: rangeL ((c + 1 : Nat) : Int) 1 n := rfl
    have tl : asgT G (callK G T (k + 1)) (.name 1) (.int c) [some (envD pr re ps), x1, x2] [] = some (.nx [some (envD pr re ps), some (.int c), x2] []) := by simp
    have hR : ∀ x ∈ R, x < ps.length := by
      rcases r3 with ⟨h1, _⟩ | ⟨s, y, h1, h2, h3, h4⟩
      · subst h1; intro x hx; cases hx
      · intro x hx
        obtain ⟨j, hj⟩ := List.getElem?_of_mem hx
        exact it_lt gp (show c < ps.length by omega) (h4 j x hj)
    obtain ⟨b, b1, b2⟩ := law_mov_ok k hR r2
    have s1 : exec G (callK G T (k + 1)) (.asg (.name 2) (.call i_law_ring [.idx (.var 0) (.int 2), .var 1])) [some (envD pr re ps), some (.int c), x2] [] = some (.nx [some (envD pr re ps), some (.int c), some (.lst (intsD R))] []) :=
      asg_ev (call2_ev (x := phsD ps) (by simp [idx_env2]) (by simp) (r1 []))
    rw [er]
    have go : RingMv ps c → (∃ ρ, execs G (callK G T (k + 1)) gb [some (envD pr re ps), some (.int c), x2] [] = some (.nx ρ []) ∧ ∃ y, ρ = [some (envD pr re ps), some (.int c), y]) → (∃ ρ, (∀ i, c ≤ i → i < ps.length → RingMv ps i) ∧ loopF (fun d ρ S => asgT G (callK G T (k + 1)) (.name 1) d ρ S) (fun ρ S => execs G (callK G T (k + 1)) gb ρ S) (.int c :: rangeL ((c + 1 : Nat) : Int) 1 n) [some (envD pr re ps), x1, x2] [] = some (.nx ρ [])) ∨
        loopF (fun d ρ S => asgT G (callK G T (k + 1)) (.name 1) d ρ S) (fun ρ S => execs G (callK G T (k + 1)) gb ρ S) (.int c :: rangeL ((c + 1 : Nat) : Int) 1 n) [some (envD pr re ps), x1, x2] [] = some (.ret (.bl false) []) := by
      intro hrm ⟨ρ, hρ, y, hy⟩
      subst hy
      rcases good_loop k gp l6 pr re n (c + 1) (some (.int c)) y (by omega) with ⟨ρ', g1, g2⟩ | g
      · refine .inl ⟨ρ', ?_, loopF_more tl hρ g2⟩
        intro i h1 h2
        by_cases e : i = c
        · subst e; exact hrm
        · exact g1 i (by omega) h2
      · exact .inr (loopF_more tl hρ g)
    rcases r3 with ⟨h1, h2⟩ | ⟨s, y, h1, h2, h3, h4⟩
    · subst h1
      refine go (.inl h2) ⟨_, ex_nx s1 (ex_else (S1 := []) (by simp [ne_nil0]) execs_nil), _, rfl⟩
    · cases R with
      | nil => simp at h1
      | cons a R =>
        cases b with
        | true =>
          refine go (ring_mv h1 h2 h3 h4 (b2 rfl)) ⟨_, ex_nx s1 (ex_else (S1 := []) (by simp [ne_nil1, idx_env2, b1]) execs_nil), _, rfl⟩
        | false =>
          refine .inr (loopF_ret tl (ex_nx s1 ?_))
          exact ex_if (S1 := []) (by simp [ne_nil1, idx_env2, b1]) (ret_ev (by simp) _)
theorem law_good_ok (k : Nat) {ps : List Ph} (gp : ∀ (i : Nat) (p : Ph), ps[i]? = some p → gph ps.length p) (l6 : ps.length ≤ 6) (pr re : Nat) : ∃ b : Bool, (∀ S, callK G T (k + 2) i_law_is_good [envD pr re ps] S = some (.ok (.bl b) S)) ∧ (b = true → ∀ i, i < ps.length → RingMv ps i) := by
  have hr := rng1 ps.length (by omega)
  have hl : ∀ S, bfD .len [phsD ps] S = some (.int ps.length) := fun S => by
    have : bfD .len [phsD ps] S = some (.int ((ps.map phD).length : Int)) := rfl
    rw [this, List.length_map]
  have hi : evalI G (callK G T (k + 1)) (.rng [.callB .len [.idx (.var 0) (.int 2)]]) [some (envD pr re ps), none, none] [] = some (.ok (rangeL ((0 : Nat) : Int) 1 ps.length) []) := by
    simp [idx_env2, hl, hr]
  have hpu : pureDs [envD pr re ps] = true := by simp [pure_env]
  rcases good_loop k gp l6 pr re ps.length 0 none none (by omega) with ⟨ρ, h, h2⟩ | h
  · refine ⟨true, fun S => ?_, fun _ i hi => h i (by omega) hi⟩
    refine call_pure (d := m_law_is_good) rfl rfl rfl hpu rfl (S1 := []) (run_ret ?_)
    exact ex_nx (exec_forR hi h2) (ret_ev (by simp) [])
  · refine ⟨false, fun S => ?_, by intro h; cases h⟩
    refine call_pure (d := m_law_is_good) rfl rfl rfl hpu rfl (S1 := []) (run_ret ?_)
    exact ex_ret (exec_forR hi h)
end K02
end
section
set_option linter.all false
set_option maxRecDepth 100000
set_option maxHeartbeats 2000000
set_option exponentiation.threshold 5000
set_option autoImplicit false
namespace K02
open KL
theorem compL_all {tg : List Nat} {test : Env → Store → Out Bool} {elt : Env → Store → Out D} {ρ : Env} {S : Store} {P : D → Prop} : ∀ xs : List D, (∀ x ∈ xs, ∃ ρ' y, bindTg tg x ρ = some ρ' ∧ test ρ' S = some (.ok true S) ∧ elt ρ' S = some (.ok y S) ∧ P y) →
    ∃ ys, compL tg test elt ρ xs S = some (.ok ys S) ∧ ys.length = xs.length ∧ ∀ y ∈ ys, P y
  | [], h => ⟨[], rfl, rfl, by simp⟩
  | x :: xs, h => by
    obtain ⟨ρ', y, h1, h2, h3, h4⟩ := h x (by simp)
    obtain ⟨ys, g1, g2, g3⟩ := compL_all (P := P) xs (fun z hz => h z (by simp [hz]))
    refine ⟨y :: ys, ?_, by simp [g2], ?_⟩
    · unfold compL
      rw [h1]
      dsimp only
      rw [h2, noexc_okS, bnd_okS, if_pos rfl, h3, noexc_okS, bnd_okS, g1]
      rfl
    · intro z hz
      rcases List.mem_cons.1 hz with rfl | hz
      · exact h4
      · exact g3 z hz
theorem compL_map {tg : List Nat} {test : Env → Store → Out Bool} {elt : Env → Store → Out D} {ρ : Env} {S : Store} {α : Type} (g f : α → D) : ∀ xs : List α, (∀ x ∈ xs, ∃ ρ', bindTg tg (g x) ρ = some ρ' ∧ test ρ' S = some (.ok true S) ∧ elt ρ' S = some (.ok (f x) S)) →
    compL tg test elt ρ (xs.map g) S = some (.ok (xs.map f) S)
  | [], h => rfl
  | x :: xs, h => by
    obtain ⟨ρ', h1, h2, h3⟩ := h x (by simp)
    have ih := compL_map g f xs (fun z hz => h z (by simp [hz]))
    show compL tg test elt ρ (g x :: xs.map g) S = _
    unfold compL
    rw [h1]
    dsimp only
    rw [h2, noexc_okS, bnd_okS, if_pos rfl, h3, noexc_okS, bnd_okS, ih]
    rfl
theorem all_true {ys : List D} (h : ∀ y ∈ ys, y = .bl true) (S : Store) : bfD .all [.lst ys] S = some (.bl true) := by
  have e : bfD .all [.lst ys] S = (match blsOf ys with
      | some bs => some (.bl (bs.all id))
      | none => none) := rfl
  have key : ∀ ys : List D, (∀ y ∈ ys, y = .bl true) → ∃ bs, blsOf ys = some bs ∧ bs.all id = true := by
    intro ys
    induction ys with
    | nil => intro _; exact ⟨[], rfl, rfl⟩
    | cons y ys ih =>
      intro h
      obtain ⟨bs, b1, b2⟩ := ih (fun z hz => h z (by simp [hz]))
      have hy := h y (by simp)
      subst hy
      exact ⟨true :: bs, by simp [blsOf, b1], by simpa using b2⟩
  obtain ⟨bs, b1, b2⟩ := key ys h
  rw [e, b1]
  dsimp only
  rw [b2]
theorem any_map {α : Type} (f : α → Bool) (xs : List α) (S : Store) : bfD .any [.lst (xs.map fun x => .bl (f x))] S = some (.bl (xs.any f)) := by
  have e : ∀ ys, bfD .any [.lst ys] S = (match blsOf ys with
      | some bs => some (.bl (bs.any id))
      | none => none) := fun _ => rfl
  have key : blsOf (xs.map fun x => D.bl (f x)) = some (xs.map f) := by
    induction xs with
    | nil => rfl
    | cons x xs ih => simp [blsOf, ih]
  rw [e, key]
  simp [List.any_map]
theorem comp_ev {C : CallF} {own : List Nat} {elt : ME} {tg : List Nat} {i : MI} {ρ : Env} {S S1 : Store} {xs ys : List D} (h : evalI G C i ρ S = some (.ok xs S1))
    (h2 : compL tg (fun ρ S => evalTs G C [] ρ S) (fun ρ S => evalE G C elt ρ S) (wipeE ρ own) xs S1 = some (.ok ys S1)) (hl : ys.length < 1000) : evalE G C (.comp own elt tg i []) ρ S = some (.ok (.lst ys) S1) := by
  rw [evalE_comp, h, bnd_okS, h2, bnd_okS, if_pos (by unfold lineN; omega)]; rfl
theorem isnum_ok (k : Nat) (S : Store) (v a b : Int) (h1 : a ≤ v) (h2 : v ≤ b) : callK G T (k + 1) i_is_number [.int v, .int a, .int b] S = some (.ok (.bl true) S) := by
  refine call_pure (d := m_is_number) rfl rfl rfl rfl rfl (S1 := []) (run_ret ?_)
  have e1 : bfD .isInt [.int v] [] = some (.bl true) := nr rfl
  have e2 : bfD .isBool [.int v] [] = some (.bl false) := nr rfl
  simp [m_is_number, e1, e2, h1, h2]
theorem gph_ok (k : Nat) (S : Store) {n : Nat} {p : Ph} (h : gph n p) : callK G T (k + 2) i_is_good_phase [phD p, .int n] S = some (.ok (.bl true) S) := by
  refine call_pure (d := m_is_good_phase) rfl rfl rfl (by simp [pure_ph]) rfl (S1 := []) (run_ret ?_)
  have e1 : ∀ xs : List D, bfD .isTup [.tup xs] [] = some (.bl true) := fun _ => nr rfl
  have e2 : ∀ s, bfD .isStr [.str s] [] = some (.bl true) := fun _ => nr rfl
  have g0 : G 0 = some (.int 12) := nr rfl
  have g1 : G 1 = some (.int 6) := nr rfl
  have g2 : G 2 = some (.int 8) := nr rfl
  cases p with
  | stay => exact nr rfl
  | go g r j =>
    obtain ⟨h1, h2, h3, h4⟩ := h
    have n1 := isnum_ok k [] j 0 ((n : Int) - 1) (by omega) (by omega)
    have n2 := isnum_ok k [] g 0 12 (by omega) (by omega)
    have n3 := isnum_ok k [] r 1 6 (by omega) (by omega)
    have q1 : cmpD .eq (.tup [.str [103, 111], .int g, .int r, .int j]) (.tup []) [] = some false := nr rfl
    have q2 : cmpD .eq (.tup [.int g, .int r, .int j]) (.tup []) [] = some false := nr rfl
    have q3 : cutD (.tup [.str [103, 111], .int g, .int r, .int j]) (some 1) none [] = some (.tup [.int g, .int r, .int j]) := nr rfl
    have q4 : idxD (.tup [.str [103, 111], .int g, .int r, .int j]) (.int 0) [] = some (.str [103, 111]) := nr rfl
    have q5 : idxD (.tup [.int g, .int r, .int j]) (.int (-1)) [] = some (.int j) := nr rfl
    have q6 : idxD (.tup [.int g, .int r, .int j]) (.int 0) [] = some (.int g) := nr rfl
    have q7 : idxD (.tup [.int g, .int r, .int j]) (.int 1) [] = some (.int r) := nr rfl
    simp [m_is_good_phase, phD, e1, e2, q1, q2, q3, q4, q5, q6, q7, n1, n2, n3, g0, g1]
  | hold s j =>
    obtain ⟨h1, h2, h3⟩ := h
    have n1 := isnum_ok k [] j 0 ((n : Int) - 1) (by omega) (by omega)
    have n2 := isnum_ok k [] s 1 8 (by omega) (by omega)
    have q1 : cmpD .eq (.tup [.str [104, 111, 108, 100], .int s, .int j]) (.tup []) [] = some false := nr rfl
    have q2 : cmpD .eq (.tup [.int s, .int j]) (.tup []) [] = some false := nr rfl
    have q3 : cutD (.tup [.str [104, 111, 108, 100], .int s, .int j]) (some 1) none [] = some (.tup [.int s, .int j]) := nr rfl
    have q4 : idxD (.tup [.str [104, 111, 108, 100], .int s, .int j]) (.int 0) [] = some (.str [104, 111, 108, 100]) := nr rfl
    have q5 : idxD (.tup [.int s, .int j]) (.int (-1)) [] = some (.int j) := nr rfl
    have q6 : idxD (.tup [.int s, .int j]) (.int 0) [] = some (.int s) := nr rfl
    simp [m_is_good_phase, phD, e1, e2, q1, q2, q3, q4, q5, q6, n1, n2, g2]
  | jump g j =>
    obtain ⟨h1, h2⟩ := h
    have n1 := isnum_ok k [] j 0 ((n : Int) - 1) (by omega) (by omega)
    have n2 := isnum_ok k [] g 0 12 (by omega) (by omega)
    have q1 : cmpD .eq (.tup [.str [106, 117, 109, 112], .int g, .int j]) (.tup []) [] = some false := nr rfl
    have q2 : cmpD .eq (.tup [.int g, .int j]) (.tup []) [] = some false := nr rfl
    have q3 : cutD (.tup [.str [106, 117, 109, 112], .int g, .int j]) (some 1) none [] = some (.tup [.int g, .int j]) := nr rfl
    have q4 : idxD (.tup [.str [106, 117, 109, 112], .int g, .int j]) (.int 0) [] = some (.str [106, 117, 109, 112]) := nr rfl
    have q5 : idxD (.tup [.int g, .int j]) (.int (-1)) [] = some (.int j) := nr rfl
    have q6 : idxD (.tup [.int g, .int j]) (.int 0) [] = some (.int g) := nr rfl
    simp [m_is_good_phase, phD, e1, e2, q1, q2, q3, q4, q5, q6, n1, n2, g0]
end K02
end
section
set_option linter.all false
set_option maxRecDepth 100000
set_option maxHeartbeats 2000000
set_option exponentiation.threshold 5000
set_option autoImplicit false
namespace K02
open KL
def ra1 : List MS := [
    .asg (.name 1) (.call i_next_of [.idx (.var 0) (.var 1)]), 
    .ifS (.v (.cmp .isN (.var 1) (.non))) [
      .ret (.lst [])] []]
theorem phase_of {ps : List Ph} {a : Nat} (h : a < ps.length) : ∃ p, ps[a]? = some p ∧ nxt ps a = p.next :=
  ⟨ps[a], List.getElem?_eq_getElem h, by unfold nxt; rw [List.getElem?_eq_getElem h]; rfl⟩
theorem ra_loop1 (k : Nat) {ps : List Ph} (gp : ∀ (i : Nat) (p : Ph), ps[i]? = some p → gph ps.length p) {i : Nat} (hi : i < ps.length) : ∀ (n c j a : Nat) (x2 x3 x4 : Option D), it ps i j = some a →
    (∃ b y2, it ps i (j + n) = some b ∧ loopF (fun d ρ S => asgT G (callK G T (k + 1)) (.name 2) d ρ S) (fun ρ S => execs G (callK G T (k + 1)) ra1 ρ S) (rangeL c 1 n) [some (phsD ps), some (.int a), x2, x3, x4] [] = some (.nx [some (phsD ps), some (.int b), y2, x3, x4] [])) ∨
    ((∃ k, it ps i k = none) ∧ loopF (fun d ρ S => asgT G (callK G T (k + 1)) (.name 2) d ρ S) (fun ρ S => execs G (callK G T (k + 1)) ra1 ρ S) (rangeL c 1 n) [some (phsD ps), some (.int a), x2, x3, x4] [] = some (.ret (.lst []) []))
  | 0, c, j, a, x2, x3, x4, h => .inl ⟨a, x2, h, rfl⟩
  | n + 1, c, j, a, x2, x3, x4, h => by
    have hal := it_lt gp hi h
    obtain ⟨p, hp, hn⟩ := phase_of hal
    have hix := idx_phs hp
    have hno := next_of_ok k [] p
    have er : rangeL (c : Int) 1 (n + 1) = .int c :: rangeL ((c + 1 : Nat) : Int) 1 n := rfl
    have tl : asgT G (callK G T (k + 1)) (.name 2) (.int c) [some (phsD ps), some (.int a), x2, x3, x4] [] = some (.nx [some (phsD ps), some (.int a), some (.int c), x3, x4] []) := by simp
    have hs : it ps i (j + 1) = p.next := by
      show (it ps i j).bind (nxt ps) = _
      rw [h]; exact hn
    rw [er]
    cases hx : p.next with
    | none =>
      refine .inr ⟨⟨j + 1, by rw [hs, hx]⟩, loopF_ret tl (S2 := []) ?_⟩
      rw [hx] at hno
      simp [ra1, hix, hno, optD, isN_non]
    | some b =>
      rw [hx] at hno
      have body : execs G (callK G T (k + 1)) ra1 [some (phsD ps), some (.int a), some (.int c), x3, x4] [] = some (.nx [some (phsD ps), some (.int b), some (.int c), x3, x4] []) := by
        simp [ra1, hix, hno, optD, isN_int]
      rcases ra_loop1 k gp hi n (c + 1) (j + 1) b (some (.int c)) x3 x4 (by rw [hs, hx]) with ⟨b', y2, g1, g2⟩ | ⟨g1, g2⟩
      · refine .inl ⟨b', y2, ?_, loopF_more tl body g2⟩
        have e : j + (n + 1) = j + 1 + n := by omega
        rw [e]; exact g1
      · exact .inr ⟨g1, loopF_more tl body g2⟩
def ra2 : List MS := [
    .asg (.tup [.name 3, .name 4]) (.tup [.bin .add (.var 3) (.lst [.var 4]), .call i_next_of [.idx (.var 0) (.var 4)]])]
theorem add_lst (l : List Nat) (a : Nat) (S : Store) (h : l.length < 1000) : binD .add (.lst (intsD l)) (.lst [.int a]) S = some (.lst (intsD (l ++ [a]))) := by
  have e : binD .add (.lst (intsD l)) (.lst [.int a]) S = if (intsD l).length + 1 ≤ lineN then some (.lst (intsD l ++ [.int a])) else none := rfl
  rw [e, if_pos (by rw [len_ints]; unfold lineN; omega)]
  simp [intsD]
theorem ra_loop2 (k : Nat) {ps : List Ph} (gp : ∀ (i : Nat) (p : Ph), ps[i]? = some p → gph ps.length p) {i : Nat} (hi : i < ps.length) {x z : Nat} (h0 : it ps i z = some x) : ∀ (m f : Nat) (l : List Nat) (a : Nat) (y2 : Option D), it ps i (z + l.length) = some a → 0 < l.length → (∀ j b, l[j]? = some b → it ps i (z + j) = some b) → it ps i (z + (l.length + m)) = some x → l.length + m < 100 → m < f →
    ∃ R : List Nat, 0 < R.length ∧ R.length ≤ l.length + m ∧ it ps i (z + R.length) = some x ∧ (∀ j b, R[j]? = some b → it ps i (z + j) = some b) ∧
      ∃ ρ, loopW (fun ρ S => evalT G (callK G T (k + 1)) (.v (.cmp .ne (.var 4) (.var 1))) ρ S) (fun ρ S => execs G (callK G T (k + 1)) ra2 ρ S) f [some (phsD ps), some (.int x), y2, some (.lst (intsD l)), some (.int a)] [] = some (.nx [some (phsD ps), some (.int x), y2, some (.lst (intsD R)), ρ] [])
  | m, 0, l, a, y2, ha, hl, hd, hx, h100, hf => by omega
  | m, f + 1, l, a, y2, ha, hl, hd, hx, h100, hf => by
    by_cases e : a = x
    · subst e
      refine ⟨l, hl, by omega, ha, hd, _, loopW_stop (by simp)⟩
    · cases m with
      | zero => rw [Nat.add_zero, ha] at hx; cases hx; exact absurd rfl e
      | succ m =>
        have hal := it_lt gp hi ha
        obtain ⟨p, hp, hn⟩ := phase_of hal
        have hix := idx_phs hp
        have hno := next_of_ok k [] p
        have hs : it ps i (z + (l.length + 1)) = p.next := by
          show (it ps i (z + l.length)).bind (nxt ps) = _
          rw [ha]; exact hn
        cases hb : p.next with
        | none =>
          have := it_none (hs.trans hb) (z + (l.length + (m + 1))) (by omega)
          rw [this] at hx; cases hx
        | some b =>
          rw [hb] at hno
          have hl2 : (l ++ [a]).length = l.length + 1 := by simp
          obtain ⟨R, r1, r2, r3, r4, ρ, r5⟩ := ra_loop2 k gp hi h0 m f (l ++ [a]) b y2 (by rw [hl2, hs, hb]) (by omega) (by
            intro j c hj
            rw [List.getElem?_append] at hj
            split at hj
            · exact hd j c hj
            · have : j - l.length = 0 := by
                cases e : j - l.length with
                | zero => rfl
                | succ n => rw [e] at hj; cases hj
              rw [this] at hj
              cases hj
              have e : j = l.length := by omega
              rw [e]; exact ha) (by rw [hl2]; have e : l.length + 1 + m = l.length + (m + 1) := by omega
                                    rw [e]; exact hx) (by rw [hl2]; omega) (by omega)
          refine ⟨R, r1, by rw [hl2] at r2; omega, r3, r4, ρ, ?_⟩
          have ne : ((a : Int) == (x : Int)) = false := by simp; omega
          refine loopW_more (S1 := []) (S' := []) (ρ' := [some (phsD ps), some (.int x), y2, some (.lst (intsD (l ++ [a]))), some (.int b)]) (by simp [ne]) ?_ r5
          have ad := add_lst l a [] (by omega)
          simp [ra2, ad, hix, hno, optD]
/-- a ring, as the program finds it -/
theorem ring_at_ok (k : Nat) {ps : List Ph} (gp : ∀ (i : Nat) (p : Ph), ps[i]? = some p → gph ps.length p) (l6 : ps.length ≤ 6) {i : Nat} (hi : i < ps.length) :
    ∃ R : List Nat, (∀ S, callK G T (k + 2) i_ring_at [phsD ps, .int i] S = some (.ok (.lst (intsD R)) S)) ∧
      (R = [] ∨ ∃ x, 0 < R.length ∧ R.length ≤ 6 ∧ it ps i ps.length = some x ∧ it ps i (ps.length + R.length) = some x ∧ ∀ j b, R[j]? = some b → it ps i (ps.length + j) = some b) := by
  have hr := rng1 ps.length (by omega)
  have hl : ∀ S, bfD .len [phsD ps] S = some (.int ps.length) := fun S => by
    have : bfD .len [phsD ps] S = some (.int ((ps.map phD).length : Int)) := rfl
    rw [this, List.length_map]
  have hit : evalI G (callK G T (k + 1)) (.rng [.callB .len [.var 0]]) [some (phsD ps), some (.int i), none, none, none] [] = some (.ok (rangeL ((0 : Nat) : Int) 1 ps.length) []) := by
    simp [hl, hr]
  have hpu : pureDs [phsD ps, .int i] = true := by simp [pure_phs]
  rcases ra_loop1 k gp hi ps.length 0 0 i none none none rfl with ⟨x, y2, g1, g2⟩ | ⟨g1, g2⟩
  · rw [Nat.zero_add] at g1
    by_cases hn : ∃ k, it ps i k = none
    · obtain ⟨k', hk'⟩ := hn
      rw [it_end gp hi hk'] at g1; cases g1
    · have hn2 : ∀ k, it ps i k ≠ none := fun k e => hn ⟨k, e⟩
      obtain ⟨s, m, y, h1, h2, h3, h4⟩ := it_php gp hi hn2
      have per := it_per h3 h4 h1 ps.length (by omega)
      rw [g1] at per
      obtain ⟨b, hb⟩ := Option.ne_none_iff_exists'.1 (hn2 (ps.length + 1))
      have hal := it_lt gp hi g1
      obtain ⟨p, hp, hnx⟩ := phase_of hal
      have hs : it ps i (ps.length + 1) = p.next := by
        show (it ps i ps.length).bind (nxt ps) = _
        rw [g1]; exact hnx
      have hpb : p.next = some b := by rw [← hs]; exact hb
      have hno := next_of_ok k [] p
      rw [hpb] at hno
      have hix := idx_phs hp
      obtain ⟨R, r1, r2, r3, r4, ρ, r5⟩ := ra_loop2 k gp hi g1 (m - s - 1) bigN [x] b y2 hb (by simp) (by
        intro j c hj
        cases j with
        | zero => cases hj; exact g1
        | succ j => simp at hj) (by
        have e : ps.length + ([x].length + (m - s - 1)) = ps.length + (m - s) := by simp; omega
        rw [e]; exact per) (by simp; omega) (by have := sm_big 100 (by omega); omega)
      refine ⟨R, fun S => ?_, .inr ⟨x, r1, by simp at r2; omega, g1, r3, r4⟩⟩
      refine call_pure (d := m_ring_at) rfl rfl rfl hpu (pure_ints R) (S1 := []) (run_ret ?_)
      refine ex_nx (exec_forR hit g2) ?_
      refine ex_nx (ρ' := [some (phsD ps), some (.int x), y2, some (.lst (intsD [x])), some (.int b)]) (S' := []) (by simp [hix, hno, optD]; rfl) ?_
      exact ex_nx (exec_whlV r5) (ret_ev (by simp) [])
  · refine ⟨[], fun S => ?_, .inl rfl⟩
    refine call_pure (d := m_ring_at) rfl rfl rfl hpu rfl (S1 := []) (run_ret ?_)
    exact ex_ret (exec_forR hit g2)
end K02
end
section
set_option linter.all false
set_option maxRecDepth 100000
set_option maxHeartbeats 2000000
set_option exponentiation.threshold 5000
set_option autoImplicit false
namespace K02
open KL
/-- the number behind a phase's word -/
def Ph.g1 : Ph → Nat
  | .go g _ _ => g
  | .hold s _ => s
  | .jump g _ => g
  | .stay => 0
theorem idx_g {p : Ph} (h : p.next ≠ none) (S : Store) : idxD (phD p) (.int 1) S = some (.int p.g1) := by
  cases p with
  | stay => exact absurd rfl h
  | go g r n => exact nr rfl
  | hold s n => exact nr rfl
  | jump g n => exact nr rfl
/-- a phase by its index -/
def pat (ps : List Ph) (i : Nat) : Ph := (ps[i]?).getD .stay
theorem pat_of {ps : List Ph} {i : Nat} {p : Ph} (h : ps[i]? = some p) : pat ps i = p := by unfold pat; rw [h]; rfl
theorem idx_pat {ps : List Ph} {i : Nat} (h : i < ps.length) (S : Store) : idxD (phsD ps) (.int i) S = some (phD (pat ps i)) := by
  have e := List.getElem?_eq_getElem h
  rw [pat_of e]; exact idx_phs e S
theorem mem_words (w : Txt) : ∀ ws : List Txt, memL (.str w) (ws.map .str) = some (decide (w ∈ ws))
  | [] => by simp [memL]
  | y :: l => by
    have ih := mem_words w l
    have e1 : eqD (.str y) (.str w) = some (y == w) := nr rfl
    show (match eqD (.str y) (.str w), memL (.str w) (l.map .str) with
      | some a, some b => some (a || b)
      | _, _ => none) = _
    rw [e1, ih]
    by_cases h : w = y
    · subst h; simp
    · have h2 : ¬ (y = w) := fun e => h e.symm
      simp [h, h2]
theorem zip2_map {α : Type} (f g : α → D) : ∀ (xs ys : List α), zip2 (xs.map f) (ys.map g) = (xs.zip ys).map fun p => .tup [f p.1, g p.2]
  | [], ys => by cases ys <;> rfl
  | x :: xs, [] => rfl
  | x :: xs, y :: ys => by
    simp only [List.map_cons, zip2, List.zip_cons_cons, zip2_map f g xs ys]
def rot (R : List Nat) : List Nat := R.drop 1 ++ R.take 1
theorem rot_get {R : List Nat} {c : Nat} (h : c < R.length) : (rot R)[prv R.length c]? = R[c]? := by
  unfold rot
  cases c with
  | zero =>
    show (R.drop 1 ++ R.take 1)[R.length - 1]? = _
    rw [List.getElem?_append_right (by simp)]
    simp
  | succ j =>
    show (R.drop 1 ++ R.take 1)[j]? = _
    rw [List.getElem?_append_left (by simp; omega)]
    rw [List.getElem?_drop, Nat.add_comm]
theorem zip_get {α β : Type} : ∀ {xs : List α} {ys : List β} {i : Nat} {x : α} {y : β}, xs[i]? = some x → ys[i]? = some y → (x, y) ∈ xs.zip ys
  | [], ys, i, x, y, h1, h2 => by simp at h1
  | a :: xs, [], i, x, y, h1, h2 => by simp at h2
  | a :: xs, b :: ys, 0, x, y, h1, h2 => by cases h1; cases h2; simp
  | a :: xs, b :: ys, i + 1, x, y, h1, h2 => by
    have := zip_get (xs := xs) (ys := ys) (i := i) h1 h2
    simp [this]
theorem zip_mem {α β : Type} : ∀ {xs : List α} {ys : List β} {p : α × β}, p ∈ xs.zip ys → p.1 ∈ xs ∧ p.2 ∈ ys
  | [], ys, p, h => by simp at h
  | a :: xs, [], p, h => by simp at h
  | a :: xs, b :: ys, p, h => by
    rw [List.zip_cons_cons] at h
    rcases List.mem_cons.1 h with h | h
    · subst h; simp
    · have := zip_mem h
      exact ⟨by simp [this.1], by simp [this.2]⟩
theorem cut_tail (R : List Nat) (S : Store) : cutD (.lst (intsD R)) (some 1) none S = some (.lst (intsD (R.drop 1))) := by
  have e : cutD (.lst (intsD R)) (some 1) none S = some (.lst (((intsD R).drop (cutIx (intsD R).length 0 (some 1))).take ((intsD R).length - cutIx (intsD R).length 0 (some 1)))) := rfl
  have e2 : cutIx (intsD R).length 0 (some 1) = min 1 R.length := by
    unfold cutIx; dsimp only; rw [if_neg (by omega), len_ints]; rfl
  rw [e, e2, len_ints, List.take_of_length_le (by rw [List.length_drop, len_ints]; omega)]
  unfold intsD
  rw [← List.map_drop]
  congr 2
  cases R with
  | nil => rfl
  | cons a R =>
    have : min 1 (a :: R).length = 1 := by simp
    rw [this]
theorem cut_head (R : List Nat) (S : Store) : cutD (.lst (intsD R)) none (some 1) S = some (.lst (intsD (R.take 1))) := by
  have e : cutD (.lst (intsD R)) none (some 1) S = some (.lst (((intsD R).drop 0).take (cutIx (intsD R).length (intsD R).length (some 1) - 0))) := rfl
  have e2 : cutIx (intsD R).length (intsD R).length (some 1) = min 1 R.length := by
    unfold cutIx; dsimp only; rw [if_neg (by omega), len_ints]; rfl
  rw [e, e2, Nat.sub_zero, List.drop_zero]
  unfold intsD
  rw [← List.map_take]
  congr 2
  cases R with
  | nil => rfl
  | cons a R =>
    have : min 1 (a :: R).length = 1 := by simp
    rw [this]
theorem add_lsts (l r : List Nat) (S : Store) (h : l.length + r.length < 1000) : binD .add (.lst (intsD l)) (.lst (intsD r)) S = some (.lst (intsD (l ++ r))) := by
  have e : binD .add (.lst (intsD l)) (.lst (intsD r)) S = if (intsD l).length + (intsD r).length ≤ lineN then some (.lst (intsD l ++ intsD r)) else none := rfl
  rw [e, if_pos (by rw [len_ints, len_ints]; unfold lineN; omega)]
  simp [intsD]
def isMv (p q : Ph) : Bool := (q.word == [103, 111]) && (p.g1 != q.g1)
theorem any_eq_true {α : Type} {f : α → Bool} {xs : List α} {x : α} (hx : x ∈ xs) (h : f x = true) : xs.any f = true := List.any_eq_true.2 ⟨x, hx, h⟩
theorem mov_ok (k : Nat) {ps : List Ph} {R : List Nat} (hR : ∀ x ∈ R, ∃ p, ps[x]? = some p ∧ p.next ≠ none) (h6 : R.length ≤ 6) (hm : PairMv ps R) : ∀ S, callK G T (k + 1) i_is_moving [phsD ps, .lst (intsD R)] S = some (.ok (.bl true) S) := by
  intro S
  have hR1 : ∀ x ∈ R, x < ps.length := fun x hx => by
    obtain ⟨p, hp, _⟩ := hR x hx
    exact (List.getElem?_eq_some_iff.1 hp).1
  have hR2 : ∀ x ∈ R, (pat ps x).next ≠ none := fun x hx => by
    obtain ⟨p, hp, h⟩ := hR x hx
    rw [pat_of hp]; exact h
  refine call_pure (d := m_is_moving) rfl rfl rfl (by simp [pure_phs, pure_ints]) rfl (S1 := []) (run_ret ?_)
  have c1 : evalE G (callK G T k) (.comp [4] (.idx (.idx (.var 0) (.var 4)) (.int 0)) [4] (.it (.var 1)) []) [some (phsD ps), some (.lst (intsD R)), none, none, none, none, none] [] = some (.ok (.lst ((R.map fun x => (pat ps x).word).map .str)) []) := by
    refine comp_ev (xs := intsD R) (S1 := []) (by simp; rfl) ?_ (by simp; omega)
    rw [List.map_map]
    refine compL_map (fun (p : Nat) => D.int (p : Int)) _ R (fun x hx => ?_)
    refine ⟨[some (phsD ps), some (.lst (intsD R)), none, none, some (.int x), none, none], rfl, rfl, ?_⟩
    simp [idx_pat (hR1 x hx), idx_word]
  have s1 := asg_ev (i := 2) c1
  have c2 : ∀ w, evalE G (callK G T k) (.comp [5, 6] (.tup [.idx (.var 0) (.var 5), .idx (.var 0) (.var 6)]) [5, 6] (.zip [.var 1, .bin .add (.slc (.var 1) (some (.int 1)) none) (.slc (.var 1) none (some (.int 1)))]) []) [some (phsD ps), some (.lst (intsD R)), w, none, none, none, none] [] = some (.ok (.lst ((R.zip (rot R)).map fun p => .tup [phD (pat ps p.1), phD (pat ps p.2)])) []) := by
    intro w
    have hz : zipD [] [.lst (intsD R), .lst (intsD (rot R))] = some ((R.zip (rot R)).map fun p => .tup [.int p.1, .int p.2]) := by
      show some (zip2 (intsD R) (intsD (rot R))) = _
      unfold intsD
      rw [zip2_map]
    have hlen : (R.zip (rot R)).length < 1000 := by rw [List.length_zip]; omega
    refine comp_ev (xs := (R.zip (rot R)).map fun p => .tup [.int p.1, .int p.2]) (S1 := []) ?_ ?_ (by rw [List.length_map]; exact hlen)
    · have ad := add_lsts (R.drop 1) (R.take 1) [] (by simp; omega)
      have e1 : evalE G (callK G T k) (.bin .add (.slc (.var 1) (some (.int 1)) none) (.slc (.var 1) none (some (.int 1)))) [some (phsD ps), some (.lst (intsD R)), w, none, none, none, none] [] = some (.ok (.lst (intsD (rot R))) []) :=
        bin_ev (S1 := []) (x := .lst (intsD (R.drop 1))) (y := .lst (intsD (R.take 1))) (by simp [cut_tail]) (by simp [cut_head]) ad
      have e0 : evalE G (callK G T k) (.var 1) [some (phsD ps), some (.lst (intsD R)), w, none, none, none, none] [] = some (.ok (.lst (intsD R)) []) := nr rfl
      simp only [evalI_zip, evalEs_cons, evalEs_nil, e0, bnd_okS, e1, ok_def, hz, lift_some]
    · refine compL_map (fun (p : Nat × Nat) => D.tup [.int p.1, .int p.2]) _ _ (fun x hx => ?_)
      have hx2 := zip_mem hx
      have hy2 : x.2 ∈ R := by
        have := hx2.2
        unfold rot at this
        rcases List.mem_append.1 this with h | h
        · exact List.mem_of_mem_drop h
        · exact List.mem_of_mem_take h
      refine ⟨[some (phsD ps), some (.lst (intsD R)), w, none, none, some (.int x.1), some (.int x.2)], rfl, rfl, ?_⟩
      simp [idx_pat (hR1 x.1 hx2.1), idx_pat (hR1 x.2 hy2)]
  have c3 : ∀ w, evalE G (callK G T k) (.callB .any [.comp [5, 6] (.andE [.cmp .eq (.idx (.var 6) (.int 0)) (.str [103, 111]), .cmp .ne (.idx (.var 5) (.int 1)) (.idx (.var 6) (.int 1))]) [5, 6] (.it (.var 3)) []]) [some (phsD ps), some (.lst (intsD R)), w, some (.lst ((R.zip (rot R)).map fun p => .tup [phD (pat ps p.1), phD (pat ps p.2)])), none, none, none] [] = some (.ok (.bl ((R.zip (rot R)).any fun p => isMv (pat ps p.1) (pat ps p.2))) []) := by
    intro w
    have hlen : (R.zip (rot R)).length < 1000 := by rw [List.length_zip]; omega
    have hc : evalE G (callK G T k) (.comp [5, 6] (.andE [.cmp .eq (.idx (.var 6) (.int 0)) (.str [103, 111]), .cmp .ne (.idx (.var 5) (.int 1)) (.idx (.var 6) (.int 1))]) [5, 6] (.it (.var 3)) []) [some (phsD ps), some (.lst (intsD R)), w, some (.lst ((R.zip (rot R)).map fun p => .tup [phD (pat ps p.1), phD (pat ps p.2)])), none, none, none] [] = some (.ok (.lst ((R.zip (rot R)).map fun p => .bl (isMv (pat ps p.1) (pat ps p.2)))) []) := by
      refine comp_ev (xs := (R.zip (rot R)).map fun p => .tup [phD (pat ps p.1), phD (pat ps p.2)]) (S1 := []) (by simp; rfl) ?_ (by rw [List.length_map]; exact hlen)
      refine compL_map (fun (p : Nat × Nat) => D.tup [phD (pat ps p.1), phD (pat ps p.2)]) _ _ (fun x hx => ?_)
      have hx2 := zip_mem hx
      have hy2 : x.2 ∈ R := by
        have := hx2.2
        unfold rot at this
        rcases List.mem_append.1 this with h | h
        · exact List.mem_of_mem_drop h
        · exact List.mem_of_mem_take h
      refine ⟨[some (phsD ps), some (.lst (intsD R)), w, some (.lst ((R.zip (rot R)).map fun p => .tup [phD (pat ps p.1), phD (pat ps p.2)])), none, some (phD (pat ps x.1)), some (phD (pat ps x.2))], rfl, rfl, ?_⟩
      have i1 := idx_g (hR2 x.1 hx2.1)
      have i2 := idx_g (hR2 x.2 hy2)
      have e3 : (((pat ps x.1).g1 : Int) == ((pat ps x.2).g1 : Int)) = ((pat ps x.1).g1 == (pat ps x.2).g1) := by
        apply Bool.eq_iff_iff.2; rw [beq_iff_eq, beq_iff_eq]; omega
      by_cases hw : (pat ps x.2).word = [103, 111]
      · have e4 : isMv (pat ps x.1) (pat ps x.2) = !((pat ps x.1).g1 == (pat ps x.2).g1) := by
          unfold isMv; simp [hw, bne]
        rw [e4]
        simp [idx_word, hw, i1, i2, e3]
      · have e4 : isMv (pat ps x.1) (pat ps x.2) = false := by
          unfold isMv; simp [hw]
        have hw2 : ((pat ps x.2).word == [103, 111]) = false := by simpa using hw
        rw [e4]
        simp [idx_word]
        rw [hw2]
    rw [evalE_callB, evalEs_cons, hc, bnd_okS, evalEs_nil, bnd_okS, ok_def, bnd_okS, any_map]
    rfl
  have hin : ∀ S, cmpD .isin (.str [104, 111, 108, 100]) (.lst ((R.map fun x => (pat ps x).word).map .str)) S = some (decide ([104, 111, 108, 100] ∈ R.map fun x => (pat ps x).word)) := fun S => mem_words _ _
  refine ex_nx s1 ?_
  by_cases hh : [104, 111, 108, 100] ∈ R.map fun x => (pat ps x).word
  · refine ex_if (S1 := []) ?_ (ret_ev (by simp) _)
    show evalT G (callK G T k) _ [some (phsD ps), some (.lst (intsD R)), some (.lst ((R.map fun x => (pat ps x).word).map .str)), none, none, none, none] [] = _
    simp only [evalT_v, evalE_cmp, evalE_str, bnd_okS, evalE_var]
    simp only [List.getElem?_cons_succ, List.getElem?_cons_zero, ok_def, bnd_okS, hin, decide_eq_true hh]
    rfl
  · refine ex_else (S1 := []) ?_ ?_
    · show evalT G (callK G T k) _ [some (phsD ps), some (.lst (intsD R)), some (.lst ((R.map fun x => (pat ps x).word).map .str)), none, none, none, none] [] = _
      simp only [evalT_v, evalE_cmp, evalE_str, bnd_okS, evalE_var]
      simp only [List.getElem?_cons_succ, List.getElem?_cons_zero, ok_def, bnd_okS, hin, decide_eq_false hh]
      rfl
    · refine ex_nx (asg_ev (c2 _)) ?_
      have c4 := c3 (some (.lst ((R.map fun x => (pat ps x).word).map .str)))
      have ht : ((R.zip (rot R)).any fun p => isMv (pat ps p.1) (pat ps p.2)) = true := by
        obtain ⟨c, a, b, p, q, hc, hb, ha, hp, hq, hmv⟩ := hm
        have hz := zip_get ha ((rot_get hc).trans hb)
        refine any_eq_true hz ?_
        dsimp only
        rw [pat_of hp, pat_of hq]
        have hnh : q.word ≠ [104, 111, 108, 100] := fun e => hh (by
          rw [List.mem_map]
          exact ⟨b, List.mem_of_getElem? hb, by rw [pat_of hq]; exact e⟩)
        cases q with
        | stay => cases hmv
        | jump g n => cases hmv
        | hold s n => exact absurd rfl hnh
        | go g r n =>
          cases p with
          | stay => cases hmv
          | hold s n => cases hmv
          | jump g' n => exact hmv
          | go g' r' n' => exact hmv
      rw [ht] at c4
      exact ret_ev c4 []
end K02
end
section
set_option linter.all false
set_option maxRecDepth 100000
set_option maxHeartbeats 2000000
set_option exponentiation.threshold 5000
set_option autoImplicit false
namespace K02
open KL
theorem len_phs (ps : List Ph) (S : Store) : bfD .len [phsD ps] S = some (.int ps.length) := by
  have : bfD .len [phsD ps] S = some (.int ((ps.map phD).length : Int)) := rfl
  rw [this, List.length_map]
/-- a moving ring, from the phases -/
theorem ring_pair {ps : List Ph} (gp : ∀ (i : Nat) (p : Ph), ps[i]? = some p → gph ps.length p) {i x : Nat} (hi : i < ps.length) {R : List Nat} (h0 : 0 < R.length) (h1 : it ps i ps.length = some x) (h2 : it ps i (ps.length + R.length) = some x) (h3 : ∀ j b, R[j]? = some b → it ps i (ps.length + j) = some b) (hm : RingMv ps i) : PairMv ps R := by
  rcases hm with ⟨k, hk⟩ | ⟨k, hk, hm⟩
  · exfalso
    rw [it_end gp hi hk] at h1; cases h1
  · obtain ⟨k', k1, k2, a, b, p, q, e1, e2, e3, e4, e5⟩ := MvAt.at h1 h2 (by omega) hk hm ps.length (by omega)
    have k2 : k' < ps.length + R.length := by omega
    obtain ⟨j, rfl⟩ : ∃ j, k' = ps.length + j := ⟨k' - ps.length, by omega⟩
    have hj : j < R.length := by omega
    have ha : R[j]? = some a := by
      have e := List.getElem?_eq_getElem hj
      have := h3 j _ e
      rw [e1] at this
      rw [e]; exact this.symm
    by_cases hl : j + 1 < R.length
    · refine ⟨j + 1, a, b, p, q, hl, ?_, ha, e3, e4, e5⟩
      have e := List.getElem?_eq_getElem hl
      have := h3 (j + 1) _ e
      have e6 : ps.length + (j + 1) = ps.length + j + 1 := by omega
      rw [e6, e2] at this
      rw [e]; exact this.symm
    · have ej : j = R.length - 1 := by omega
      have e6 : ps.length + j + 1 = ps.length + R.length := by omega
      rw [e6, h2] at e2
      cases e2
      refine ⟨0, a, x, p, q, h0, ?_, by show R[R.length - 1]? = some a; rw [← ej]; exact ha, e3, e4, e5⟩
      have e := List.getElem?_eq_getElem h0
      have := h3 0 _ e
      rw [Nat.add_zero, h1] at this
      rw [e]; exact this.symm
theorem is_tup (xs : List D) (S : Store) : bfD .isTup [.tup xs] S = some (.bl true) := nr rfl
theorem gcon3 : G 3 = some (.int 6) := nr rfl
theorem mem_rangeL {x : D} : ∀ {n c : Nat}, x ∈ rangeL (c : Int) 1 n → ∃ i : Nat, x = .int i ∧ c ≤ i ∧ i < c + n
  | 0, c, h => by cases h
  | n + 1, c, h => by
    have er : rangeL (c : Int) 1 (n + 1) = .int c :: rangeL ((c + 1 : Nat) : Int) 1 n := rfl
    rw [er] at h
    rcases List.mem_cons.1 h with h | h
    · exact ⟨c, h, by omega, by omega⟩
    · obtain ⟨i, h1, h2, h3⟩ := mem_rangeL h
      exact ⟨i, h1, by omega, by omega⟩
theorem len_range (c : Int) (n : Nat) : ∀ a : Int, (rangeL a c n).length = n := by
  induction n with
  | zero => intro a; rfl
  | succ n ih => intro a; simp [rangeL, ih]
theorem is_good_ok (k : Nat) (S : Store) {ps : List Ph} (g : GoodR ps) {pr re : Nat} (hpr : pr < ps.length) (hre : re < ps.length) : callK G T (k + 4) i_is_good [envD pr re ps] S = some (.ok (.bl true) S) := by
  have l1 := g.l1
  have l6 := g.l6
  refine call_pure (d := m_is_good) rfl rfl rfl (by simp [pure_env]) rfl (S1 := []) (run_ret ?_)
  show execs G (callK G T (k + 3)) m_is_good.body [some (envD pr re ps), none, none, none, none, none] [] = _
  have t1 : bfD .isTup [envD pr re ps] [] = some (.bl true) := nr rfl
  have t2 : bfD .isTup [phsD ps] [] = some (.bl true) := nr rfl
  have t3 : bfD .len [envD pr re ps] [] = some (.int 3) := nr rfl
  refine ex_else (S1 := []) (by simp [t1, t2, t3, idx_env2]) ?_
  refine ex_nx (ρ' := [some (envD pr re ps), some (.int ps.length), none, none, none, none]) (S' := []) (by simp [idx_env2, len_phs]) ?_
  have c1 : evalE G (callK G T (k + 3)) (.callB .all [.comp [5] (.call i_is_good_phase [.var 5, .var 1]) [5] (.it (.idx (.var 0) (.int 2))) []]) [some (envD pr re ps), some (.int ps.length), none, none, none, none] [] = some (.ok (.bl true) []) := by
    obtain ⟨ys, y1, y2, y3⟩ := compL_all (tg := [5]) (test := fun ρ S => evalTs G (callK G T (k + 3)) [] ρ S) (elt := fun ρ S => evalE G (callK G T (k + 3)) (.call i_is_good_phase [.var 5, .var 1]) ρ S) (ρ := wipeE [some (envD pr re ps), some (.int ps.length), none, none, none, none] [5]) (S := []) (P := fun y => y = .bl true) (ps.map phD) (by
      intro x hx
      obtain ⟨p, hp, rfl⟩ := List.mem_map.1 hx
      obtain ⟨i, hi⟩ := List.getElem?_of_mem hp
      have := gph_ok (k + 1) [] (g.gp i p hi)
      exact ⟨[some (envD pr re ps), some (.int ps.length), none, none, none, some (phD p)], .bl true, rfl, rfl, call2_ev (by simp) (by simp) this, rfl⟩)
    have hc := comp_ev (own := [5]) (elt := .call i_is_good_phase [.var 5, .var 1]) (i := .it (.idx (.var 0) (.int 2))) (C := callK G T (k + 3)) (ρ := [some (envD pr re ps), some (.int ps.length), none, none, none, none]) (S := []) (S1 := []) (xs := ps.map phD) (by simp [idx_env2]; rfl) y1 (by rw [y2, List.length_map]; omega)
    rw [evalE_callB, evalEs_cons, hc, bnd_okS, evalEs_nil, bnd_okS, ok_def, bnd_okS, all_true y3]
    rfl
  have q1 : evalT G (callK G T (k + 3)) (.or [.not (.v (.chain .le .le (.int 1) (.var 1) (.gcon 3))), .not (.v (.callB .all [.comp [5] (.call i_is_good_phase [.var 5, .var 1]) [5] (.it (.idx (.var 0) (.int 2))) []]))]) [some (envD pr re ps), some (.int ps.length), none, none, none, none] [] = some (.ok false []) := by
    have h1 : (1 : Int) ≤ (ps.length : Int) := by omega
    have h2 : (ps.length : Int) ≤ 6 := by omega
    rw [evalT_or, evalTo_cons, evalT_not, evalT_v]
    have e : evalE G (callK G T (k + 3)) (.chain .le .le (.int 1) (.var 1) (.gcon 3)) [some (envD pr re ps), some (.int ps.length), none, none, none, none] [] = some (.ok (.bl true) []) := by
      simp [gcon3, h1, h2]
    rw [e, bnd_okS, truD_bl, lift_some, bnd_okS, ok_def, bnd_okS]
    rw [evalTo_cons, evalT_not, evalT_v, c1, bnd_okS, truD_bl, lift_some, bnd_okS]
    rfl
  refine ex_else q1 ?_
  have n1 := isnum_ok (k + 2) [] pr 0 ((ps.length : Int) - 1) (by omega) (by omega)
  have n2 := isnum_ok (k + 2) [] re 0 ((ps.length : Int) - 1) (by omega) (by omega)
  refine ex_else (S1 := []) (by simp [idx_env0, idx_env1, n1, n2]) ?_
  have hr := rng1 ps.length (by omega)
  have c2 : ∃ ys : List D, evalE G (callK G T (k + 3)) (.comp [3] (.call i_ring_at [.idx (.var 0) (.int 2), .var 3]) [3] (.rng [.var 1]) []) [some (envD pr re ps), some (.int ps.length), none, none, none, none] [] = some (.ok (.lst ys) []) ∧ ys.length = ps.length ∧
      ∀ y ∈ ys, ∃ R : List Nat, y = .lst (intsD R) ∧ (R = [] ∨ ∀ S, callK G T (k + 3) i_is_moving [phsD ps, .lst (intsD R)] S = some (.ok (.bl true) S)) := by
    obtain ⟨ys, y1, y2, y3⟩ := compL_all (tg := [3]) (test := fun ρ S => evalTs G (callK G T (k + 3)) [] ρ S) (elt := fun ρ S => evalE G (callK G T (k + 3)) (.call i_ring_at [.idx (.var 0) (.int 2), .var 3]) ρ S) (ρ := wipeE [some (envD pr re ps), some (.int ps.length), none, none, none, none] [3]) (S := []) (P := fun y => ∃ R : List Nat, y = .lst (intsD R) ∧ (R = [] ∨ ∀ S, callK G T (k + 3) i_is_moving [phsD ps, .lst (intsD R)] S = some (.ok (.bl true) S))) (rangeL ((0 : Nat) : Int) 1 ps.length) (by
      intro x hx
      obtain ⟨i, rfl, _, hi⟩ := mem_rangeL hx
      have hi : i < ps.length := by omega
      obtain ⟨R, r1, r2⟩ := ring_at_ok (k + 1) g.gp l6 hi
      refine ⟨[some (envD pr re ps), some (.int ps.length), none, some (.int i), none, none], .lst (intsD R), rfl, rfl, call2_ev (x := phsD ps) (by simp [idx_env2]) (by simp) (r1 []), R, rfl, ?_⟩
      rcases r2 with h | ⟨x, h1, h2, h3, h4, h5⟩
      · exact .inl h
      · refine .inr (mov_ok (k + 2) ?_ h2 (ring_pair g.gp hi h1 h3 h4 h5 (g.rm i hi)))
        intro b hb
        obtain ⟨j, hj⟩ := List.getElem?_of_mem hb
        have hb2 := h5 j b hj
        have hbl := it_lt g.gp hi hb2
        obtain ⟨p, hp, hn⟩ := phase_of hbl
        refine ⟨p, hp, ?_⟩
        intro e
        have : it ps i (ps.length + j + 1) = none := by
          show (it ps i (ps.length + j)).bind (nxt ps) = none
          rw [hb2]; exact hn.trans e
        rw [it_none this (ps.length + R.length) (by have := (List.getElem?_eq_some_iff.1 hj).1; omega)] at h4
        cases h4)
    exact ⟨ys, comp_ev (S1 := []) (xs := rangeL ((0 : Nat) : Int) 1 ps.length) (by simp [hr]) y1 (by rw [y2, len_range]; omega), by rw [y2, len_range], y3⟩
  obtain ⟨ys, c3, c4, c5⟩ := c2
  refine ex_nx (asg_ev c3) ?_
  have c6 : evalE G (callK G T (k + 3)) (.callB .all [.comp [4] (.orE [.cmp .eq (.var 4) (.lst []), .call i_is_moving [.idx (.var 0) (.int 2), .var 4]]) [4] (.it (.var 2)) []]) [some (envD pr re ps), some (.int ps.length), some (.lst ys), none, none, none] [] = some (.ok (.bl true) []) := by
    obtain ⟨zs, y1, y2, y3⟩ := compL_all (tg := [4]) (test := fun ρ S => evalTs G (callK G T (k + 3)) [] ρ S) (elt := fun ρ S => evalE G (callK G T (k + 3)) (.orE [.cmp .eq (.var 4) (.lst []), .call i_is_moving [.idx (.var 0) (.int 2), .var 4]]) ρ S) (ρ := wipeE [some (envD pr re ps), some (.int ps.length), some (.lst ys), none, none, none] [4]) (S := []) (P := fun y => y = .bl true) ys (by
      intro x hx
      obtain ⟨R, rfl, hR⟩ := c5 x hx
      refine ⟨[some (envD pr re ps), some (.int ps.length), some (.lst ys), none, some (.lst (intsD R)), none], .bl true, rfl, rfl, ?_, rfl⟩
      have e0 : cmpD .eq (.lst (intsD [])) (.lst []) [] = some true := nr rfl
      have e1 : ∀ a R, cmpD .eq (.lst (intsD (a :: R))) (.lst []) [] = some false := fun _ _ => nr rfl
      rcases hR with h | h
      · subst h; simp [e0]
      · cases R with
        | nil => simp [e0]
        | cons a R => simp [e1, idx_env2, h])
    have hc := comp_ev (own := [4]) (elt := .orE [.cmp .eq (.var 4) (.lst []), .call i_is_moving [.idx (.var 0) (.int 2), .var 4]]) (i := .it (.var 2)) (C := callK G T (k + 3)) (ρ := [some (envD pr re ps), some (.int ps.length), some (.lst ys), none, none, none]) (S := []) (S1 := []) (xs := ys) (by simp; rfl) y1 (by omega)
    rw [evalE_callB, evalEs_cons, hc, bnd_okS, evalEs_nil, bnd_okS, ok_def, bnd_okS, all_true y3]
    rfl
  exact ret_ev c6 []
end K02
end
section
set_option linter.all false
set_option maxRecDepth 100000
set_option maxHeartbeats 2000000
set_option exponentiation.threshold 5000
set_option autoImplicit false
namespace K02
open KL
def grb : List MS := [.ifS (.or [.not (.v (.callB .isInt [.var 1])), .v (.callB .isBool [.var 1]), .v (.cmp .lt (.var 1) (.int 0))]) [
      .ret (.bl false)] []]
theorem gr_loop {C : CallF} (r : D) (x2 x3 : Option D) : ∀ (l : List Nat) (x1 : Option D), ∃ y1, loopF (fun d ρ S => asgT G C (.name 1) d ρ S) (fun ρ S => execs G C grb ρ S) (intsD l) [some r, x1, x2, x3] [] = some (.nx [some r, y1, x2, x3] [])
  | [], x1 => ⟨x1, rfl⟩
  | a :: l, x1 => by
    obtain ⟨y1, h⟩ := gr_loop r x2 x3 l (some (.int a))
    refine ⟨y1, ?_⟩
    have e : intsD (a :: l) = .int a :: intsD l := rfl
    rw [e]
    have e1 : bfD .isInt [.int (a : Int)] [] = some (.bl true) := nr rfl
    have e2 : bfD .isBool [.int (a : Int)] [] = some (.bl false) := nr rfl
    have e3 : ¬ ((a : Int) < 0) := by omega
    refine loopF_more (ρ1 := [some r, some (.int a), x2, x3]) (S1 := []) (by simp) ?_ h
    simp [grb, e1, e2, e3]
theorem zip_le : ∀ {l : List Nat}, l.Pairwise (· ≤ ·) → ∀ p ∈ l.zip (l.drop 1), p.1 ≤ p.2
  | [], h, p, hp => by simp at hp
  | [a], h, p, hp => by simp at hp
  | a :: b :: l, h, p, hp => by
    have h2 := List.pairwise_cons.1 h
    have e : (a :: b :: l).zip ((a :: b :: l).drop 1) = (a, b) :: (b :: l).zip ((b :: l).drop 1) := rfl
    rw [e] at hp
    rcases List.mem_cons.1 hp with h3 | h3
    · subst h3; exact h2.1 b (by simp)
    · exact zip_le h2.2 p h3
theorem cut_tailT (R : List Nat) (S : Store) : cutD (.tup (intsD R)) (some 1) none S = some (.tup (intsD (R.drop 1))) := by
  have e : cutD (.tup (intsD R)) (some 1) none S = some (.tup (((intsD R).drop (cutIx (intsD R).length 0 (some 1))).take ((intsD R).length - cutIx (intsD R).length 0 (some 1)))) := rfl
  have e2 : cutIx (intsD R).length 0 (some 1) = min 1 R.length := by
    unfold cutIx; dsimp only; rw [if_neg (by omega), len_ints]; rfl
  rw [e, e2, len_ints, List.take_of_length_le (by rw [List.length_drop, len_ints]; omega)]
  unfold intsD
  rw [← List.map_drop]
  congr 2
  cases R with
  | nil => rfl
  | cons a R =>
    have : min 1 (a :: R).length = 1 := by simp
    rw [this]
theorem walk_tup (xs : List D) (S : Store) : walkD S (.tup xs) = some xs := nr rfl
theorem good_row_ok (k : Nat) (S : Store) {g : Nat} (hg : 0 < g) {al : List Nat} (hp : al.Pairwise (· ≤ ·)) (hl : al.length ≤ 90) : callK G T (k + 1) i_is_good_row [rowD g al] S = some (.ok (.bl true) S) := by
  refine call_pure (d := m_is_good_row) rfl rfl rfl (by simp [pure_row]) rfl (S1 := []) (run_ret ?_)
  show execs G (callK G T k) m_is_good_row.body [some (rowD g al), none, none, none] [] = _
  have t1 : bfD .isTup [rowD g al] [] = some (.bl true) := nr rfl
  have t2 : bfD .isTup [.tup (intsD al)] [] = some (.bl true) := nr rfl
  have t3 : bfD .len [rowD g al] [] = some (.int 2) := nr rfl
  refine ex_else (S1 := []) (by simp [t1, t2, t3, idx_row1]) ?_
  obtain ⟨y1, hlp⟩ := gr_loop (C := callK G T k) (rowD g al) none none (g :: al) none
  have ad : binD .add (.tup [.int (g : Int)]) (.tup (intsD al)) [] = some (.tup (intsD (g :: al))) := by
    have e : binD .add (.tup [.int (g : Int)]) (.tup (intsD al)) [] = if 1 + (intsD al).length ≤ lineN then some (.tup (.int g :: intsD al)) else none := rfl
    rw [e, if_pos (by rw [len_ints]; unfold lineN; omega)]; rfl
  refine ex_nx (exec_forR (xs := intsD (g :: al)) (S1 := []) (by simp [idx_row0, idx_row1, ad, walk_tup]) hlp) ?_
  have g0 : ((g : Int) == 0) = false := by simp; omega
  refine ex_else (S1 := []) (by simp [idx_row0, g0]) ?_
  have hz : zipD [] [.tup (intsD al), .tup (intsD (al.drop 1))] = some ((al.zip (al.drop 1)).map fun p => .tup [.int p.1, .int p.2]) := by
    show some (zip2 (intsD al) (intsD (al.drop 1))) = _
    unfold intsD
    rw [zip2_map]
  have hlen : (al.zip (al.drop 1)).length < 1000 := by rw [List.length_zip]; omega
  have hi : evalI G (callK G T k) (.zip [.idx (.var 0) (.int 1), .slc (.idx (.var 0) (.int 1)) (some (.int 1)) none]) [some (rowD g al), y1, none, none] [] = some (.ok ((al.zip (al.drop 1)).map fun p => .tup [.int p.1, .int p.2]) []) := by
    have e0 : evalE G (callK G T k) (.idx (.var 0) (.int 1)) [some (rowD g al), y1, none, none] [] = some (.ok (.tup (intsD al)) []) := by simp [idx_row1]
    have e1 : evalE G (callK G T k) (.slc (.idx (.var 0) (.int 1)) (some (.int 1)) none) [some (rowD g al), y1, none, none] [] = some (.ok (.tup (intsD (al.drop 1))) []) := by
      simp only [evalE_slc, e0, bnd_okS, evalO_some, evalO_none, evalE_int, ok_def, cut_tailT, lift_some]
    simp only [evalI_zip, evalEs_cons, evalEs_nil, e0, bnd_okS, e1, ok_def, hz, lift_some]
  obtain ⟨zs, y1', y2, y3⟩ := compL_all (tg := [2, 3]) (test := fun ρ S => evalTs G (callK G T k) [] ρ S) (elt := fun ρ S => evalE G (callK G T k) (.cmp .le (.var 2) (.var 3)) ρ S) (ρ := wipeE [some (rowD g al), y1, none, none] [2, 3]) (S := []) (P := fun y => y = .bl true) ((al.zip (al.drop 1)).map fun p => .tup [.int p.1, .int p.2]) (by
    intro x hx
    obtain ⟨p, hp2, rfl⟩ := List.mem_map.1 hx
    have hle := zip_le hp p hp2
    have h2 : (p.1 : Int) ≤ (p.2 : Int) := by omega
    refine ⟨[some (rowD g al), y1, some (.int p.1), some (.int p.2)], .bl true, rfl, rfl, ?_, rfl⟩
    simp [h2])
  have hc := comp_ev (own := [2, 3]) (S := []) hi y1' (by rw [y2, List.length_map]; exact hlen)
  have c6 : evalE G (callK G T k) (.callB .all [.comp [2, 3] (.cmp .le (.var 2) (.var 3)) [2, 3] (.zip [.idx (.var 0) (.int 1), .slc (.idx (.var 0) (.int 1)) (some (.int 1)) none]) []]) [some (rowD g al), y1, none, none] [] = some (.ok (.bl true) []) := by
    rw [evalE_callB, evalEs_cons, hc, bnd_okS, evalEs_nil, bnd_okS, ok_def, bnd_okS, all_true y3]
    rfl
  exact ret_ev c6 []
/-- a def that ends without a return -/
theorem run_nx {d : MDef} {args : List D} {C : CallF} {ρ' : Env} {S S1 : Store} (h : execs G C d.body (args.map some ++ List.replicate (d.ns - d.np) none) S = some (.nx ρ' S1)) : runBody G C d args S = some (.ok .non S1) := by
  unfold runBody; rw [h]; rfl
theorem need_env_ok (k : Nat) (S : Store) {ps : List Ph} (g : GoodR ps) {pr re : Nat} (hpr : pr < ps.length) (hre : re < ps.length) : callK G T (k + 5) i_need_envelope [envD pr re ps] S = some (.ok .non S) := by
  refine call_pure (d := m_need_envelope) rfl rfl rfl (by simp [pure_env]) rfl (S1 := []) (run_nx (ρ' := [some (envD pr re ps)]) ?_)
  have h := is_good_ok k [] g hpr hre
  simp [m_need_envelope, h]
theorem need_row_ok (k : Nat) (S : Store) {g : Nat} (hg : 0 < g) {al : List Nat} (hp : al.Pairwise (· ≤ ·)) (hl : al.length ≤ 90) : callK G T (k + 2) i_need_row [rowD g al] S = some (.ok .non S) := by
  refine call_pure (d := m_need_row) rfl rfl rfl (by simp [pure_row]) rfl (S1 := []) (run_nx (ρ' := [some (rowD g al)]) ?_)
  have h := good_row_ok k [] hg hp hl
  simp [m_need_row, h]
theorem need_num_ok (k : Nat) (S : Store) (v m : Int) (h1 : 0 ≤ v) (h2 : v ≤ m) : callK G T (k + 2) i_need_number [.int v, .int m] S = some (.ok .non S) := by
  refine call_pure (d := m_need_number) rfl rfl rfl rfl rfl (S1 := []) (run_nx (ρ' := [some (.int v), some (.int m)]) ?_)
  have h := isnum_ok k [] v 0 m h1 h2
  simp [m_need_number, h]
theorem gcon4 : G 4 = some (.int 1000000000000000000000000000000) := nr rfl
theorem need3_ok (k : Nat) (S : Store) {ps : List Ph} (gr : GoodR ps) {pr re : Nat} (hpr : pr < ps.length) (hre : re < ps.length) {g : Nat} (hg : 0 < g) {al : List Nat} (hp : al.Pairwise (· ≤ ·)) (hl : al.length ≤ 90) {mo : Nat} (hm : mo ≤ 1000000) :
    callK G T (k + 6) i_need_three [envD pr re ps, rowD g al, .int mo] S = some (.ok .non S) := by
  refine call_pure (d := m_need_three) rfl rfl rfl (by simp [pure_env, pure_row]) rfl (S1 := []) (run_nx (ρ' := [some (envD pr re ps), some (rowD g al), some (.int mo)]) ?_)
  have h1 := need_env_ok k [] gr hpr hre
  have h2 := need_row_ok (k + 3) [] hg hp hl
  have h3 := need_num_ok (k + 3) [] mo 1000000000000000000000000000000 (by omega) (by omega)
  simp [m_need_three, h1, h2, h3, gcon4]
/-- what the law asks, at one moment -/
theorem tell_ok (k : Nat) {ps : List Ph} (gr : GoodR ps) {g : Nat} (hg : 0 < g) (hg1 : lgt g 20) {pr re mo : Nat} (hpr : pr < ps.length) (hre : re < ps.length) (hmo : mo ≤ 100 * g) (hm6 : mo ≤ 1000000) {al : List Nat} (hpw : al.Pairwise (· ≤ ·)) (hal : al.length ≤ 90) :
    ∃ w ph lv, (∀ S, idxD w (.str [112, 104, 97, 115, 101]) S = some ph) ∧ (∀ S, idxD w (.str [108, 101, 118, 101, 108]) S = some (frD lv)) ∧ (ph = .non ∨ ∃ i : Nat, ph = .int i) ∧
      (∀ S, callK G T (k + 8) i_law_at [envD pr re ps, rowD g al, .int mo] S = some (.ok w S)) ∧
      (∀ S, callK G T (k + 8) i_level_at [envD pr re ps, rowD g al, .int mo] S = some (.ok (frD lv) S)) ∧
      (∀ S, callK G T (k + 8) i_phase_at [envD pr re ps, rowD g al, .int mo] S = some (.ok ph S)) := by
  have hz : 20 ≤ bigN := Nat.le_of_lt (sm_big 20 (by omega))
  obtain ⟨s', w', ph, lv, te, h1, h2⟩ := at_ok k (k + 2) hz gr.goodP hg hg1 hpr hre hmo hpw hal
  have hn : ∀ S, callK G T (k + 7) i_need_three [envD pr re ps, rowD g al, .int mo] S = some (.ok .non S) := fun S => need3_ok (k + 1) S gr hpr hre hg hpw hal hm6
  refine ⟨w', ph, lv, te.w1, te.w2, te.ph, h2, fun S => ?_, fun S => ?_⟩
  · refine call_pure (d := m_level_at) rfl rfl rfl (by simp [pure_env, pure_row]) (pure_fr _) (S1 := []) (run_ret ?_)
    simp [m_level_at, hn, h1, te.s2]
  · refine call_pure (d := m_phase_at) rfl rfl rfl (by simp [pure_env, pure_row]) (by rcases te.ph with h | ⟨i, h⟩ <;> rw [h] <;> rfl) (S1 := []) (run_ret ?_)
    simp [m_phase_at, hn, h1, te.s1]
end K02
end
section
set_option linter.all false
set_option maxRecDepth 100000
set_option maxHeartbeats 2000000
set_option exponentiation.threshold 5000
set_option autoImplicit false
namespace K02
open KL
/-- a source of draws in the store -/
def Src (S : Store) (n : Nat) : Prop := ∃ a b : Int, S[n]? = some (.lst [.int a, .int b]) ∧ 0 ≤ a ∧ 0 ≤ b ∧ b < 2147483647
/-- only the source has changed -/
def Keep (n : Nat) (S S' : Store) : Prop := S'.length = S.length ∧ ∀ j, j ≠ n → S'[j]? = S[j]?
theorem Keep.refl (n : Nat) (S : Store) : Keep n S S := ⟨rfl, fun _ _ => rfl⟩
theorem Keep.trans {n : Nat} {S S1 S2 : Store} (h : Keep n S S1) (h2 : Keep n S1 S2) : Keep n S S2 := ⟨h2.1.trans h.1, fun j hj => (h2.2 j hj).trans (h.2 j hj)⟩
theorem bf_int (i : Int) (S : Store) : bfD .intF [.int i] S = some (.int i) := nr rfl
theorem src_view {S : Store} {n : Nat} {xs : List D} (h : S[n]? = some (.lst xs)) : view S (.ref n) = .lst xs := by
  unfold view; simp [h]
theorem src_idx {S : Store} {n i : Nat} {xs : List D} {y : D} (h : S[n]? = some (.lst xs)) (hi : xs[i]? = some y) : idxD (.ref n) (.int i) S = some y := by
  unfold idxD
  rw [src_view h]
  exact idx_lst hi S
theorem src_set {S : Store} {n i : Nat} {xs : List D} (y : D) (h : S[n]? = some (.lst xs)) (hi : i < xs.length) : setItemD (.ref n) (.int i) y S = some (S.set n (.lst (xs.set i y))) := by
  have e : ixOf xs.length (i : Int) = some i := by
    unfold ixOf
    rw [if_pos (by omega), if_pos (by omega)]; simp
  unfold setItemD
  dsimp only
  rw [h]
  dsimp only
  rw [e]
theorem set_get {S : Store} {n : Nat} {x : SO} (y : SO) (h : S[n]? = some x) : (S.set n y)[n]? = some y := by
  have hl : n < S.length := (List.getElem?_eq_some_iff.1 h).1
  rw [List.getElem?_set_self hl]
theorem set_keep {S : Store} {n : Nat} (y : SO) : Keep n S (S.set n y) := ⟨by simp, fun j hj => by rw [List.getElem?_set_ne (by omega)]⟩
theorem draw_ok (k : Nat) {S : Store} {n m : Nat} (h : Src S n) (hm : 0 < m) (hm2 : m < 1000000) : ∃ (v : Nat) (S' : Store), callK G T (k + 1) i_law_draw [.ref n, .int m] S = some (.ok (.int v) S') ∧ v < m ∧ Src S' n ∧ Keep n S S' := by
  obtain ⟨a, b, h0, ha, hb, hb2⟩ := h
  have i0 : idxD (.ref n) (.int 0) S = some (.int a) := src_idx (i := 0) h0 rfl
  have i1 : idxD (.ref n) (.int 1) S = some (.int b) := src_idx (i := 1) h0 rfl
  have mpos : (0 : Int) < (m : Int) := by omega
  by_cases hp : 0 < a
  · obtain ⟨v, hv⟩ := Int.eq_ofNat_of_zero_le (Int.emod_nonneg a (show (m : Int) ≠ 0 by omega))
    have hlt := Int.emod_lt_of_pos a mpos
    have hd : divOk (m : Int) = true := divOk_of mpos (by unfold Smi; rw [Int.natAbs_natCast]; exact lgt_le (m := 1000000) (lgt_mono (a := 20) (by unfold lgt; decide) (by decide)) (by omega))
    have hs : setItemD (.ref n) (.int 0) (.int (a / m)) S = some (S.set n (.lst [.int (a / m), .int b])) := src_set (i := 0) _ h0 (by simp)
    refine ⟨v, S.set n (.lst [.int (a / m), .int b]), ?_, by omega, ⟨a / m, b, set_get _ h0, Int.ediv_nonneg ha (by omega), hb, hb2⟩, set_keep _⟩
    rw [call_imp (d := m_law_draw) rfl rfl rfl]
    refine run_ret ?_
    have hv2 : a % (m : Int) = (v : Int) := hv
    have bm : ∀ S, binD .mod (.int a) (.int (m : Int)) S = some (.int (v : Int)) := fun S => by rw [bin_modI _ _ mpos, hv2]
    have bd : ∀ S, binD .fdiv (.int a) (.int (m : Int)) S = some (.int (a / m)) := fun S => bin_fdivI _ _ hd
    simp [m_law_draw, i0, hp, bf_int, bm, bd, hs]
  · have ha0 : a = 0 := by omega
    subst ha0
    have hb' := Int.emod_nonneg (b * 48271) (show (2147483647 : Int) ≠ 0 by omega)
    have hb'' := Int.emod_lt_of_pos (b * 48271) (show (0 : Int) < 2147483647 by omega)
    have hs : setItemD (.ref n) (.int 1) (.int (b * 48271 % 2147483647)) S = some (S.set n (.lst [.int 0, .int (b * 48271 % 2147483647)])) := src_set (i := 1) _ h0 (by simp)
    have mk1 : mulOk b 48271 = true := mulOk_right (by omega)
    obtain ⟨b', hbe⟩ : ∃ b', b' = b * 48271 % 2147483647 := ⟨_, rfl⟩
    rw [← hbe] at hb' hb'' hs
    have mk2 : mulOk b' b' = true := mulOk_right (by omega)
    have i1' : idxD (.ref n) (.int 1) (S.set n (.lst [.int 0, .int b'])) = some (.int b') := src_idx (i := 1) (set_get _ h0) rfl
    have d64 : divOk 64 = true := by decide
    obtain ⟨w, hw⟩ : ∃ w, w = b' * b' % 2147483629 / 64 := ⟨_, rfl⟩
    obtain ⟨v, hv⟩ := Int.eq_ofNat_of_zero_le (Int.emod_nonneg w (show (m : Int) ≠ 0 by omega))
    have hlt := Int.emod_lt_of_pos w mpos
    refine ⟨v, S.set n (.lst [.int 0, .int b']), ?_, by omega, ⟨0, b', set_get _ h0, by omega, hb', hb''⟩, set_keep _⟩
    rw [call_imp (d := m_law_draw) rfl rfl rfl]
    refine run_ret ?_
    have hv2 : w % (m : Int) = (v : Int) := hv
    have bm : ∀ S, binD .mod (.int w) (.int (m : Int)) S = some (.int (v : Int)) := fun S => by rw [bin_modI _ _ mpos, hv2]
    have b1 : ∀ S, binD .mul (.int b) (.int 48271) S = some (.int (b * 48271)) := fun S => bin_mulI _ _ mk1
    have b2 : ∀ S, binD .mod (.int (b * 48271)) (.int 2147483647) S = some (.int b') := fun S => by rw [bin_modI _ _ (by omega), hbe]
    have b3 : ∀ S, binD .mul (.int b') (.int b') S = some (.int (b' * b')) := fun S => bin_mulI _ _ mk2
    have b4 : ∀ S, binD .mod (.int (b' * b')) (.int 2147483629) S = some (.int (b' * b' % 2147483629)) := fun S => bin_modI _ _ (by omega)
    have b5 : ∀ S, binD .fdiv (.int (b' * b' % 2147483629)) (.int 64) S = some (.int w) := fun S => by rw [bin_fdivI _ _ d64, hw]
    simp [m_law_draw, i0, i1, bf_int, b1, b2, hs, i1', b3, b4, b5, bm]
theorem of_ok (k : Nat) {S : Store} {n : Nat} {xs : List D} (h : Src S n) (h1 : 0 < xs.length) (h2 : xs.length < 1000) : ∃ (x : D) (S' : Store), callK G T (k + 2) i_law_of [.ref n, .lst xs] S = some (.ok x S') ∧ x ∈ xs ∧ Src S' n ∧ Keep n S S' := by
  obtain ⟨v, S', d1, d2, d3, d4⟩ := draw_ok k h (m := xs.length) h1 (by omega)
  have e := List.getElem?_eq_getElem d2
  refine ⟨xs[v], S', ?_, List.getElem_mem d2, d3, d4⟩
  rw [call_imp (d := m_law_of) rfl rfl rfl]
  refine run_ret ?_
  have hi : idxD (.lst xs) (.int v) S' = some xs[v] := idx_lst e S'
  simp [m_law_of, d1, hi]
theorem of_ref_ok (k : Nat) {S : Store} {n r : Nat} {xs : List D} (h : Src S n) (hr : S[r]? = some (.lst xs)) (hn : r ≠ n) (h1 : 0 < xs.length) (h2 : xs.length < 1000) : ∃ (x : D) (S' : Store), callK G T (k + 2) i_law_of [.ref n, .ref r] S = some (.ok x S') ∧ x ∈ xs ∧ Src S' n ∧ Keep n S S' := by
  obtain ⟨v, S', d1, d2, d3, d4⟩ := draw_ok k h (m := xs.length) h1 (by omega)
  have e := List.getElem?_eq_getElem d2
  refine ⟨xs[v], S', ?_, List.getElem_mem d2, d3, d4⟩
  rw [call_imp (d := m_law_of) rfl rfl rfl]
  refine run_ret ?_
  have hl : bfD .len [.ref r] S = some (.int xs.length) := by
    have e : bfD .len [.ref r] S = (match view S (.ref r) with
      | .str s => if s.length ≤ lineN then some (.int s.length) else none
      | .tup xs => some (.int xs.length)
      | .lst xs => some (.int xs.length)
      | .scr ns => some (.int ns.length)
      | _ => none) := rfl
    rw [e, src_view hr]
  have hi : idxD (.ref r) (.int v) S' = some xs[v] := src_idx ((d4.2 r hn).trans hr) e
  simp [m_law_of, hl, d1, hi]
theorem pow18 (S : Store) : binD .pow (.int 10) (.int 18) S = some (.int 1000000000000000000) := nr rfl
theorem idx_scr {ns : List Int} {c : Nat} {x : Int} (h : ns[c]? = some x) (S : Store) : idxD (.scr ns) (.int c) S = some (.int x) := by
  have hl : c < ns.length := (List.getElem?_eq_some_iff.1 h).1
  have e : ixOf ns.length (c : Int) = some c := by
    unfold ixOf
    rw [if_pos (by omega), if_pos (by omega)]; simp
  show (match ixOf ns.length (c : Int) with
    | some j => (ns[j]?).map D.int
    | none => none) = _
  rw [e]
  simp [h]
def tl2 : List MS := [.ifS (.v (.cmp .lt (.var 2) (.bin .pow (.int 10) (.int 18)))) [
    .ret (.newL [.int 0, .bin .add (.int 1) (.bin .mod (.callB .intF [.bin .add (.bin .mul (.var 2) (.int 7919)) (.bin .mul (.int 104729) (.var 1))]) (.int 2147483646))])] [], 
  .ret (.newL [.var 2, .bin .add (.int 1) (.bin .mod (.callB .intF [.bin .add (.var 2) (.var 1)]) (.int 2147483646))])]
theorem source_tail (C : CallF) (S : Store) (r : D) (c : Nat) (x : Int) (hx : 0 ≤ x) : ∃ a b : Int, 0 ≤ a ∧ 0 ≤ b ∧ b < 2147483647 ∧ execs G C tl2 [some r, some (.int c), some (.int x)] S = some (.ret (.ref S.length) (S ++ [.lst [.int a, .int b]])) := by
  have b1 : ∀ S, binD .mul (.int x) (.int 7919) S = some (.int (x * 7919)) := fun S => bin_mulI _ _ (mulOk_right (by omega))
  have b2 : ∀ S, binD .mul (.int 104729) (.int (c : Int)) S = some (.int (104729 * c)) := fun S => bin_mulI _ _ (mulOk_left (by omega))
  have b3 : ∀ (y : Int) (S : Store), binD .mod (.int y) (.int 2147483646) S = some (.int (y % 2147483646)) := fun y S => bin_modI _ _ (by omega)
  by_cases h : x < 1000000000000000000
  · have g1 := Int.emod_nonneg (x * 7919 + 104729 * c) (show (2147483646 : Int) ≠ 0 by omega)
    have g2 := Int.emod_lt_of_pos (x * 7919 + 104729 * c) (show (0 : Int) < 2147483646 by omega)
    refine ⟨0, 1 + (x * 7919 + 104729 * c) % 2147483646, by omega, by omega, by omega, ?_⟩
    simp [tl2, pow18, h, b1, b2, b3, bf_int]
  · have g1 := Int.emod_nonneg (x + c) (show (2147483646 : Int) ≠ 0 by omega)
    have g2 := Int.emod_lt_of_pos (x + c) (show (0 : Int) < 2147483646 by omega)
    refine ⟨x, 1 + (x + c) % 2147483646, by omega, by omega, by omega, ?_⟩
    simp [tl2, pow18, h, b3, bf_int]
theorem source_ok (k : Nat) (S : Store) (ns : List Int) (c : Nat) : ∃ a b : Int, 0 ≤ a ∧ 0 ≤ b ∧ b < 2147483647 ∧ callK G T (k + 1) i_law_source [.scr ns, .int c] S = some (.ok (.ref S.length) (S ++ [.lst [.int a, .int b]])) := by
  have run : ∀ x : Int, 0 ≤ x → execs G (callK G T k) [.asg (.name 2) (.int 0), .ifS (.v (.cmp .lt (.var 1) (.callB .len [.var 0]))) [
    .asg (.name 2) (.callB .abs [.callB .intF [.idx (.var 0) (.var 1)]])] []] [some (.scr ns), some (.int c), none] S = some (.nx [some (.scr ns), some (.int c), some (.int x)] S) → ∃ a b : Int, 0 ≤ a ∧ 0 ≤ b ∧ b < 2147483647 ∧ callK G T (k + 1) i_law_source [.scr ns, .int c] S = some (.ok (.ref S.length) (S ++ [.lst [.int a, .int b]])) := by
    intro x hx hr
    obtain ⟨a, b, h1, h2, h3, h4⟩ := source_tail (callK G T k) S (.scr ns) c x hx
    refine ⟨a, b, h1, h2, h3, ?_⟩
    rw [call_imp (d := m_law_source) rfl rfl rfl]
    refine run_ret ?_
    rw [execs_cons] at hr
    show execs G (callK G T k) (.asg (.name 2) (.int 0) :: .ifS (.v (.cmp .lt (.var 1) (.callB .len [.var 0]))) [
    .asg (.name 2) (.callB .abs [.callB .intF [.idx (.var 0) (.var 1)]])] [] :: tl2) [some (.scr ns), some (.int c), none] S = _
    refine ex_nx (ρ' := [some (.scr ns), some (.int c), some (.int 0)]) (S' := S) (by simp) ?_
    refine ex_nx (ρ' := [some (.scr ns), some (.int c), some (.int x)]) (S' := S) ?_ h4
    have e : exec G (callK G T k) (.asg (.name 2) (.int 0)) [some (.scr ns), some (.int c), none] S = some (.nx [some (.scr ns), some (.int c), some (.int 0)] S) := by simp
    rw [e] at hr
    dsimp only at hr
    rw [execs_cons] at hr
    generalize exec G (callK G T k) (.ifS (.v (.cmp .lt (.var 1) (.callB .len [.var 0]))) [
    .asg (.name 2) (.callB .abs [.callB .intF [.idx (.var 0) (.var 1)]])] []) [some (.scr ns), some (.int c), some (.int 0)] S = R at hr ⊢
    cases R with
    | none => cases hr
    | some r => cases r with
      | nx ρ S => simpa using hr
      | ret d S => cases hr
      | brk ρ S => cases hr
      | ct ρ S => cases hr
      | exc c p ρ S => cases hr
  by_cases hc : c < ns.length
  · have hi := idx_scr (List.getElem?_eq_getElem hc)
    have h2 : (c : Int) < (ns.length : Int) := by omega
    exact run (if ns[c] < 0 then -ns[c] else ns[c]) (by split <;> omega) (by simp [h2, hi, bf_int])
  · have h2 : ¬ ((c : Int) < (ns.length : Int)) := by omega
    exact run 0 (by omega) (by simp [h2])
end K02
end
section
set_option linter.all false
set_option maxRecDepth 100000
set_option maxHeartbeats 2000000
set_option exponentiation.threshold 5000
set_option autoImplicit false
namespace K02
open KL
/-- a draw with a fixed bound -/
theorem drw (k : Nat) {S : Store} {n : Nat} (h : Src S n) (m : Nat) (hm : 0 < m) (hm2 : m < 1000000) : ∃ (v : Nat) (S' : Store), callK G T (k + 1) i_law_draw [.ref n, .int (m : Int)] S = some (.ok (.int v) S') ∧ v < m ∧ Src S' n ∧ Keep n S S' := draw_ok k h hm hm2
theorem phase_ok (k : Nat) {S : Store} {n many : Nat} (h : Src S n) (hm : 0 < many) (hm2 : many ≤ 6) : ∃ (p : Ph) (S' : Store), callK G T (k + 3) i_law_phase [.ref n, .int many] S = some (.ok (phD p) S') ∧ gph many p ∧ Src S' n ∧ Keep n S S' := by
  obtain ⟨w, S1, a1, a2, a3, a4⟩ := drw (k + 1) h 9 (by omega) (by omega)
  obtain ⟨j, S2, b1, b2, b3, b4⟩ := drw (k + 1) a3 many hm (by omega)
  have k2 := a4.trans b4
  have a1 : callK G T (k + 2) i_law_draw [.ref n, .int 9] S = some (.ok (.int w) S1) := a1
  rw [call_imp (d := m_law_phase) rfl rfl rfl]
  by_cases h5 : w < 5
  · obtain ⟨x, S3, c1, c2, c3, c4⟩ := drw (k + 1) b3 13 (by omega) (by omega)
    obtain ⟨y, S4, d1, d2, d3, d4⟩ := drw (k + 1) c3 7 (by omega) (by omega)
    have c1 : callK G T (k + 2) i_law_draw [.ref n, .int 13] S2 = some (.ok (.int x) S3) := c1
    have d1 : callK G T (k + 2) i_law_draw [.ref n, .int 7] S3 = some (.ok (.int y) S4) := d1
    obtain ⟨g, S5, e1, e2, e3, e4⟩ := of_ok k (xs := [.int 0, .int 0, .int x, .int y]) d3 (by simp) (by simp)
    obtain ⟨r, S6, f1, f2, f3, f4⟩ := drw (k + 1) e3 6 (by omega) (by omega)
    have f1 : callK G T (k + 2) i_law_draw [.ref n, .int 6] S5 = some (.ok (.int r) S6) := f1
    obtain ⟨g', hg, hg2⟩ : ∃ g' : Nat, g = .int g' ∧ g' ≤ 12 := by
      simp only [List.mem_cons, List.not_mem_nil, or_false] at e2
      rcases e2 with h | h | h | h
      · exact ⟨0, h, by omega⟩
      · exact ⟨0, h, by omega⟩
      · exact ⟨x, h, by omega⟩
      · exact ⟨y, h, by omega⟩
    subst hg
    have er : (1 : Int) + (r : Int) = ((1 + r : Nat) : Int) := by omega
    refine ⟨.go g' (1 + r) j, S6, run_ret ?_, ⟨hg2, by omega, by omega, b2⟩, f3, k2.trans (c4.trans (d4.trans (e4.trans f4)))⟩
    have hlt : (w : Int) < 5 := by omega
    simp [m_law_phase, a1, b1, hlt, c1, d1, e1, f1, phD]
  · by_cases h6 : w = 5
    · obtain ⟨x, S3, c1, c2, c3, c4⟩ := drw (k + 1) b3 8 (by omega) (by omega)
      have c1 : callK G T (k + 2) i_law_draw [.ref n, .int 8] S2 = some (.ok (.int x) S3) := c1
      subst h6
      refine ⟨.hold (1 + x) j, S3, run_ret ?_, ⟨by omega, by omega, b2⟩, c3, k2.trans c4⟩
      simp [m_law_phase, a1, b1, c1, phD]
    · have hlt : ¬ ((w : Int) < 5) := by omega
      have h5' : ¬ ((w : Int) = 5) := by omega
      by_cases h7 : w = 6
      · obtain ⟨x, S3, c1, c2, c3, c4⟩ := drw (k + 1) b3 13 (by omega) (by omega)
        have c1 : callK G T (k + 2) i_law_draw [.ref n, .int 13] S2 = some (.ok (.int x) S3) := c1
        subst h7
        refine ⟨.jump x j, S3, run_ret ?_, ⟨by omega, b2⟩, c3, k2.trans c4⟩
        simp [m_law_phase, a1, b1, c1, phD]
      · have h6' : ¬ ((w : Int) = 6) := by omega
        refine ⟨.stay, S2, run_ret ?_, trivial, b3, k2⟩
        simp [m_law_phase, a1, b1, hlt, h5', h6', phD]
/-- an envelope to be asked -/
def EnvR (d : D) : Prop := ∃ pr re ps, d = envD pr re ps ∧ GoodR ps ∧ pr < ps.length ∧ re < ps.length
theorem compL_src {tg : List Nat} {test : Env → Store → Out Bool} {elt : Env → Store → Out D} {ρ : Env} {n : Nat} {α : Type} {P : α → Prop} (f : α → D) : ∀ (xs : List D) (S : Store), Src S n → (∀ x ∈ xs, ∀ S, Src S n → ∃ (ρ' : Env) (y : α) (S' : Store), bindTg tg x ρ = some ρ' ∧ test ρ' S = some (.ok true S) ∧ elt ρ' S = some (.ok (f y) S') ∧ P y ∧ Src S' n ∧ Keep n S S') →
    ∃ (ys : List α) (S' : Store), compL tg test elt ρ xs S = some (.ok (ys.map f) S') ∧ ys.length = xs.length ∧ (∀ y ∈ ys, P y) ∧ Src S' n ∧ Keep n S S'
  | [], S, hs, h => ⟨[], S, rfl, rfl, by simp, hs, Keep.refl _ _⟩
  | x :: xs, S, hs, h => by
    obtain ⟨ρ', y, S1, h1, h2, h3, h4, h5, h6⟩ := h x (by simp) S hs
    obtain ⟨ys, S2, g1, g2, g3, g4, g5⟩ := compL_src (P := P) f xs S1 h5 (fun z hz => h z (by simp [hz]))
    refine ⟨y :: ys, S2, ?_, by simp [g2], ?_, g4, h6.trans g5⟩
    · unfold compL
      rw [h1]
      dsimp only
      rw [h2, noexc_okS, bnd_okS, if_pos rfl, h3, noexc_okS, bnd_okS, g1]
      rfl
    · intro z hz
      rcases List.mem_cons.1 hz with rfl | hz
      · exact h4
      · exact g3 z hz
theorem gp_of {ps : List Ph} (h : ∀ p ∈ ps, gph ps.length p) : ∀ (i : Nat) (p : Ph), ps[i]? = some p → gph ps.length p := fun i p hp => h p (List.mem_of_getElem? hp)
theorem gp_mem {ps : List Ph} (h : ∀ (i : Nat) (p : Ph), ps[i]? = some p → gph ps.length p) : ∀ p ∈ ps, gph ps.length p := fun p hp => by
  obtain ⟨i, hi⟩ := List.getElem?_of_mem hp
  exact h i p hi
theorem env_stay : EnvR (.tup [.int 0, .int 0, .tup [.tup [.str [115, 116, 97, 121]]]]) := by
  refine ⟨0, 0, [.stay], rfl, ⟨by simp, by simp, ?_, ?_⟩, by simp, by simp⟩
  · refine gp_of (fun p hp => ?_)
    rw [List.mem_singleton] at hp; subst hp; trivial
  · intro i hi
    have : i = 0 := by simp at hi; omega
    subst this
    exact .inl ⟨1, rfl⟩
theorem any_ok (k : Nat) {S : Store} {n : Nat} (h : Src S n) : ∃ (d : D) (S' : Store), callK G T (k + 4) i_law_any [.ref n] S = some (.ok d S') ∧ EnvR d ∧ Src S' n ∧ Keep n S S' := by
  obtain ⟨w, S1, a1, a2, a3, a4⟩ := drw (k + 2) h 6 (by omega) (by omega)
  have a1 : callK G T (k + 3) i_law_draw [.ref n, .int 6] S = some (.ok (.int w) S1) := a1
  obtain ⟨m, hm⟩ : ∃ m, m = 1 + w := ⟨_, rfl⟩
  have em : (1 : Int) + (w : Int) = (m : Int) := by omega
  have hr := rng1 m (by omega)
  obtain ⟨ps, S2, b1, b2, b3, b4, b5⟩ := compL_src (tg := [4]) (test := fun ρ S => evalTs G (callK G T (k + 3)) [] ρ S) (elt := fun ρ S => evalE G (callK G T (k + 3)) (.call i_law_phase [.var 0, .var 1]) ρ S) (ρ := wipeE [some (.ref n), some (.int m), none, none, none] [4]) (n := n) (P := gph m) phD (rangeL ((0 : Nat) : Int) 1 m) S1 a3 (by
    intro x hx S hs
    obtain ⟨p, S', p1, p2, p3, p4⟩ := phase_ok k hs (many := m) (by omega) (by omega)
    have e1 : evalE G (callK G T (k + 3)) (.var 0) [some (.ref n), some (.int m), none, none, some x] S = some (.ok (.ref n) S) := nr rfl
    have e2 : evalE G (callK G T (k + 3)) (.var 1) [some (.ref n), some (.int m), none, none, some x] S = some (.ok (.int m) S) := nr rfl
    refine ⟨[some (.ref n), some (.int m), none, none, some x], p, S', rfl, rfl, ?_, p2, p3, p4⟩
    show evalE G (callK G T (k + 3)) (.call i_law_phase [.var 0, .var 1]) [some (.ref n), some (.int m), none, none, some x] S = _
    simp only [evalE_call, evalEs_cons, evalEs_nil, e1, e2, bnd_okS, ok_def, p1])
  rw [len_range] at b2
  obtain ⟨pr, S3, c1, c2, c3, c4⟩ := drw (k + 2) b4 m (by omega) (by omega)
  obtain ⟨re, S4, d1, d2, d3, d4⟩ := drw (k + 2) c3 m (by omega) (by omega)
  have gp : ∀ (i : Nat) (p : Ph), ps[i]? = some p → gph ps.length p := gp_of (fun p hp => by rw [b2]; exact b3 p hp)
  obtain ⟨b, e1, e2⟩ := law_good_ok (k + 1) gp (by omega) pr re
  have hcomp : evalE G (callK G T (k + 3)) (.comp [4] (.call i_law_phase [.var 0, .var 1]) [4] (.rng [.var 1]) []) [some (.ref n), some (.int m), none, none, none] S1 = some (.ok (.lst (ps.map phD)) S2) := by
    have hi : evalI G (callK G T (k + 3)) (.rng [.var 1]) [some (.ref n), some (.int m), none, none, none] S1 = some (.ok (rangeL ((0 : Nat) : Int) 1 m) S1) := by simp [hr]
    rw [evalE_comp, hi, bnd_okS, b1, bnd_okS, if_pos (by rw [List.length_map, b2]; unfold lineN; omega)]; rfl
  have htup : ∀ S, bfD .tupF [.lst (ps.map phD)] S = some (phsD ps) := fun _ => rfl
  rw [call_imp (d := m_law_any) rfl rfl rfl]
  have s1 : exec G (callK G T (k + 3)) (.asg (.name 1) (.bin .add (.int 1) (.call i_law_draw [.var 0, .int 6]))) [some (.ref n), none, none, none, none] S = some (.nx [some (.ref n), some (.int m), none, none, none] S1) := by
    simp [a1, em]
  have s2 : exec G (callK G T (k + 3)) (.asg (.name 2) (.callB .tupF [.comp [4] (.call i_law_phase [.var 0, .var 1]) [4] (.rng [.var 1]) []])) [some (.ref n), some (.int m), none, none, none] S1 = some (.nx [some (.ref n), some (.int m), some (phsD ps), none, none] S2) := by
    rw [exec_asg, evalE_callB, evalEs_cons, hcomp, bnd_okS, evalEs_nil, bnd_okS, ok_def, bnd_okS, htup]
    rfl
  have s3 : exec G (callK G T (k + 3)) (.asg (.name 3) (.tup [.call i_law_draw [.var 0, .var 1], .call i_law_draw [.var 0, .var 1], .var 2])) [some (.ref n), some (.int m), some (phsD ps), none, none] S2 = some (.nx [some (.ref n), some (.int m), some (phsD ps), some (envD pr re ps), none] S4) := by
    simp [c1, d1, envD]
  refine ⟨if b then envD pr re ps else .tup [.int 0, .int 0, .tup [.tup [.str [115, 116, 97, 121]]]], S4, run_ret ?_, ?_, d3, a4.trans (b5.trans (c4.trans d4))⟩
  · refine ex_nx s1 (ex_nx s2 (ex_nx s3 ?_))
    refine ret_ev ?_ []
    cases b <;> simp [e1]
  · cases b with
    | false => exact env_stay
    | true => exact ⟨pr, re, ps, rfl, ⟨by omega, by omega, gp, e2 rfl⟩, by omega, by omega⟩
end K02
end
section
set_option linter.all false
set_option maxRecDepth 100000
set_option maxHeartbeats 2000000
set_option exponentiation.threshold 5000
set_option autoImplicit false
namespace K02
open KL
theorem cons5 {a b c d e : Ph} {P : Ph → Prop} (h1 : P a) (h2 : P b) (h3 : P c) (h4 : P d) (h5 : P e) : ∀ p ∈ [a, b, c, d, e], P p := by
  intro p hp; simp at hp; rcases hp with rfl | rfl | rfl | rfl | rfl <;> assumption
theorem cons4 {a b c d : Ph} {P : Ph → Prop} (h1 : P a) (h2 : P b) (h3 : P c) (h4 : P d) : ∀ p ∈ [a, b, c, d], P p := by
  intro p hp; simp at hp; rcases hp with rfl | rfl | rfl | rfl <;> assumption
theorem cons3 {a b c : Ph} {P : Ph → Prop} (h1 : P a) (h2 : P b) (h3 : P c) : ∀ p ∈ [a, b, c], P p := by
  intro p hp; simp at hp; rcases hp with rfl | rfl | rfl <;> assumption
theorem known1 {t u o : Nat} (ht : t ≤ 12) (hu : 1 ≤ u ∧ u ≤ 6) (ho : 1 ≤ o ∧ o ≤ 6) : EnvR (envD 0 2 [.go t u 1, .stay, .go 0 o 1]) := by
  refine ⟨0, 2, _, rfl, ⟨by simp, by simp, gp_of (cons3 ?_ ?_ ?_), ?_⟩, by simp, by simp⟩
  · exact ⟨ht, hu.1, hu.2, by simp⟩
  · trivial
  · exact ⟨by omega, ho.1, ho.2, by simp⟩
  · intro i hi
    have : i = 0 ∨ i = 1 ∨ i = 2 := by simp at hi; omega
    rcases this with rfl | rfl | rfl <;> exact .inl ⟨5, rfl⟩
theorem known2 {t u o l d : Nat} (ht : t ≤ 12) (hu : 1 ≤ u ∧ u ≤ 6) (ho : 1 ≤ o ∧ o ≤ 6) (hl : l ≤ 12) (hd : 1 ≤ d ∧ d ≤ 6) : EnvR (envD 0 3 [.go t u 1, .go l d 2, .stay, .go 0 o 2]) := by
  refine ⟨0, 3, _, rfl, ⟨by simp, by simp, gp_of (cons4 ?_ ?_ ?_ ?_), ?_⟩, by simp, by simp⟩
  · exact ⟨ht, hu.1, hu.2, by simp⟩
  · exact ⟨hl, hd.1, hd.2, by simp⟩
  · trivial
  · exact ⟨by omega, ho.1, ho.2, by simp⟩
  · intro i hi
    have : i = 0 ∨ i = 1 ∨ i = 2 ∨ i = 3 := by simp at hi; omega
    rcases this with rfl | rfl | rfl | rfl <;> exact .inl ⟨5, rfl⟩
theorem known3 {t u o : Nat} (ht : t ≤ 12) (hu : 1 ≤ u ∧ u ≤ 6) (ho : 1 ≤ o ∧ o ≤ 6) : EnvR (envD 0 3 [.jump 0 1, .go t u 2, .stay, .go 0 o 2]) := by
  refine ⟨0, 3, _, rfl, ⟨by simp, by simp, gp_of (cons4 ?_ ?_ ?_ ?_), ?_⟩, by simp, by simp⟩
  · exact ⟨by omega, by simp⟩
  · exact ⟨ht, hu.1, hu.2, by simp⟩
  · trivial
  · exact ⟨by omega, ho.1, ho.2, by simp⟩
  · intro i hi
    have : i = 0 ∨ i = 1 ∨ i = 2 ∨ i = 3 := by simp at hi; omega
    rcases this with rfl | rfl | rfl | rfl <;> exact .inl ⟨5, rfl⟩
theorem known4 {t u o h d : Nat} (ht : t ≤ 12) (hu : 1 ≤ u ∧ u ≤ 6) (ho : 1 ≤ o ∧ o ≤ 6) (hh : 1 ≤ h ∧ h ≤ 8) (hd : 1 ≤ d ∧ d ≤ 6) : EnvR (envD 0 3 [.go t u 1, .hold h 2, .go 0 d 4, .go 0 o 4, .stay]) := by
  refine ⟨0, 3, _, rfl, ⟨by simp, by simp, gp_of (cons5 ?_ ?_ ?_ ?_ ?_), ?_⟩, by simp, by simp⟩
  · exact ⟨ht, hu.1, hu.2, by simp⟩
  · exact ⟨hh.1, hh.2, by simp⟩
  · exact ⟨by omega, hd.1, hd.2, by simp⟩
  · exact ⟨by omega, ho.1, ho.2, by simp⟩
  · trivial
  · intro i hi
    have : i = 0 ∨ i = 1 ∨ i = 2 ∨ i = 3 ∨ i = 4 := by simp at hi; omega
    rcases this with rfl | rfl | rfl | rfl | rfl <;> exact .inl ⟨5, rfl⟩
theorem known5 {t o h : Nat} (ht : t ≤ 12) (ho : 1 ≤ o ∧ o ≤ 6) (hh : 1 ≤ h ∧ h ≤ 8) : EnvR (envD 0 2 [.jump t 1, .stay, .hold h 3, .go 0 o 1]) := by
  refine ⟨0, 2, _, rfl, ⟨by simp, by simp, gp_of (cons4 ?_ ?_ ?_ ?_), ?_⟩, by simp, by simp⟩
  · exact ⟨ht, by simp⟩
  · trivial
  · exact ⟨hh.1, hh.2, by simp⟩
  · exact ⟨by omega, ho.1, ho.2, by simp⟩
  · intro i hi
    have : i = 0 ∨ i = 1 ∨ i = 2 ∨ i = 3 := by simp at hi; omega
    rcases this with rfl | rfl | rfl | rfl <;> exact .inl ⟨5, rfl⟩
theorem known6 {t u o l d : Nat} (ht : t ≤ 12) (hu : 1 ≤ u ∧ u ≤ 6) (ho : 1 ≤ o ∧ o ≤ 6) (hl : l ≤ 12) (hd : 1 ≤ d ∧ d ≤ 6) (hne : l ≠ t) : EnvR (envD 0 2 [.go t u 1, .go l d 0, .go 0 o 3, .stay]) := by
  refine ⟨0, 2, _, rfl, ⟨by simp, by simp, gp_of (cons4 ?_ ?_ ?_ ?_), ?_⟩, by simp, by simp⟩
  · exact ⟨ht, hu.1, hu.2, by simp⟩
  · exact ⟨hl, hd.1, hd.2, by simp⟩
  · exact ⟨by omega, ho.1, ho.2, by simp⟩
  · trivial
  · intro i hi
    have : i = 0 ∨ i = 1 ∨ i = 2 ∨ i = 3 := by simp at hi; omega
    have hm : mv (.go t u 1) (.go l d 0) = true := by simp [mv]; omega
    rcases this with rfl | rfl | rfl | rfl
    · exact .inr ⟨4, by simp, 0, 1, _, _, rfl, rfl, rfl, rfl, hm⟩
    · exact .inr ⟨5, by simp, 0, 1, _, _, rfl, rfl, rfl, rfl, hm⟩
    · exact .inl ⟨5, rfl⟩
    · exact .inl ⟨5, rfl⟩
theorem isL_end (S : Store) (l : List D) : isLstRef (.ref S.length) (S ++ [.lst l]) = true := by
  unfold isLstRef; simp
theorem app_end (S : Store) (l : List D) (y : D) (h : l.length < 1000) : appD (.ref S.length) y (S ++ [.lst l]) = some (.ok .non (S ++ [.lst (l ++ [y])])) := by
  unfold appD
  have e : (S ++ [SO.lst l])[S.length]? = some (.lst l) := by simp
  dsimp only
  rw [e]
  dsimp only
  rw [if_pos (by unfold lineN; omega)]
  simp
theorem src_end {S : Store} {n : Nat} (h : Src S n) (x : SO) : Src (S ++ [x]) n ∧ n ≠ S.length := by
  obtain ⟨a, b, h0, h1⟩ := h
  have hl : n < S.length := (List.getElem?_eq_some_iff.1 h0).1
  exact ⟨⟨a, b, by rw [List.getElem?_append_left hl]; exact h0, h1⟩, by omega⟩
/-- one more item, at the end of the store -/
theorem app_st {C : CallF} {e : ME} {ρ : Env} {S : Store} {l : List D} {y : D} (hv : ρ[2]? = some (some (.ref S.length))) (he : ∀ S, evalE G C e ρ S = some (.ok y S)) (h : l.length < 1000) : exec G C (.expr (.append (.var 2) e)) ρ (S ++ [.lst l]) = some (.nx ρ (S ++ [.lst (l ++ [y])])) := by
  rw [exec_expr, evalE_append, evalE_var, hv]
  dsimp only
  rw [ok_def, bnd_okS, if_pos (isL_end S l), he, bnd_okS, app_end S l y h]
  rfl
theorem known_ok (k : Nat) {S : Store} {n : Nat} (h : Src S n) : ∃ (d : D) (S' : Store), callK G T (k + 4) i_law_known [.ref n] S = some (.ok d S') ∧ EnvR d ∧ Src S' n := by
  obtain ⟨v1, S1, a1, a2, a3, a4⟩ := drw (k + 2) h 12 (by omega) (by omega)
  obtain ⟨l, S2, b1, b2, b3, b4⟩ := drw (k + 2) a3 7 (by omega) (by omega)
  obtain ⟨v3, S3, c1, c2, c3, c4⟩ := drw (k + 2) b3 6 (by omega) (by omega)
  obtain ⟨v4, S4, d1, d2, d3, d4⟩ := drw (k + 2) c3 6 (by omega) (by omega)
  obtain ⟨v5, S5, e1, e2, e3, e4⟩ := drw (k + 2) d3 6 (by omega) (by omega)
  obtain ⟨v6, S6, f1, f2, f3, f4⟩ := drw (k + 2) e3 8 (by omega) (by omega)
  have a1 : callK G T (k + 3) i_law_draw [.ref n, .int 12] S = some (.ok (.int v1) S1) := a1
  have b1 : callK G T (k + 3) i_law_draw [.ref n, .int 7] S1 = some (.ok (.int l) S2) := b1
  have c1 : callK G T (k + 3) i_law_draw [.ref n, .int 6] S2 = some (.ok (.int v3) S3) := c1
  have d1 : callK G T (k + 3) i_law_draw [.ref n, .int 6] S3 = some (.ok (.int v4) S4) := d1
  have e1 : callK G T (k + 3) i_law_draw [.ref n, .int 6] S4 = some (.ok (.int v5) S5) := e1
  have f1 : callK G T (k + 3) i_law_draw [.ref n, .int 8] S5 = some (.ok (.int v6) S6) := f1
  obtain ⟨t, ht⟩ : ∃ t, t = 1 + v1 := ⟨_, rfl⟩
  obtain ⟨u, hu⟩ : ∃ t, t = 1 + v3 := ⟨_, rfl⟩
  obtain ⟨d, hd⟩ : ∃ t, t = 1 + v4 := ⟨_, rfl⟩
  obtain ⟨o, ho⟩ : ∃ t, t = 1 + v5 := ⟨_, rfl⟩
  obtain ⟨q, hq⟩ : ∃ t, t = 1 + v6 := ⟨_, rfl⟩
  have et : (1 : Int) + (v1 : Int) = (t : Int) := by omega
  have eu : (1 : Int) + (v3 : Int) = (u : Int) := by omega
  have ed : (1 : Int) + (v4 : Int) = (d : Int) := by omega
  have eo : (1 : Int) + (v5 : Int) = (o : Int) := by omega
  have eq : (1 : Int) + (v6 : Int) = (q : Int) := by omega
  rw [call_imp (d := m_law_known) rfl rfl rfl]
  have s1 : exec G (callK G T (k + 3)) (.asg (.tup [.name 3, .name 4]) (.tup [.bin .add (.int 1) (.call 29 [.var 0, .int 12]), .call 29 [.var 0, .int 7]])) [some (.ref n), none, none, none, none, none, none, none, none] S = some (.nx [some (.ref n), none, none, some (.int t), some (.int l), none, none, none, none] S2) := by
    simp [a1, b1, et]
  have s2 : exec G (callK G T (k + 3)) (.asg (.tup [.name 5, .name 6]) (.tup [.bin .add (.int 1) (.call 29 [.var 0, .int 6]), .bin .add (.int 1) (.call 29 [.var 0, .int 6])])) [some (.ref n), none, none, some (.int t), some (.int l), none, none, none, none] S2 = some (.nx [some (.ref n), none, none, some (.int t), some (.int l), some (.int u), some (.int d), none, none] S4) := by
    simp [c1, d1, eu, ed]
  have s3 : exec G (callK G T (k + 3)) (.asg (.name 1) (.bin .add (.int 1) (.call 29 [.var 0, .int 6]))) [some (.ref n), none, none, some (.int t), some (.int l), some (.int u), some (.int d), none, none] S4 = some (.nx [some (.ref n), some (.int o), none, some (.int t), some (.int l), some (.int u), some (.int d), none, none] S5) := by
    simp [e1, eo]
  have s4 : exec G (callK G T (k + 3)) (.asg (.tup [.name 7, .name 8]) (.tup [.tup [.str [103, 111], .var 3, .var 5, .int 1], .tup [.str [104, 111, 108, 100], .bin .add (.int 1) (.call 29 [.var 0, .int 8]), .int 2]])) [some (.ref n), some (.int o), none, some (.int t), some (.int l), some (.int u), some (.int d), none, none] S5 = some (.nx [some (.ref n), some (.int o), none, some (.int t), some (.int l), some (.int u), some (.int d), some (phD (.go t u 1)), some (phD (.hold q 2))] S6) := by
    simp [f1, eq, phD]
  obtain ⟨ρ, hρ⟩ : ∃ ρ : Env, ρ = [some (.ref n), some (.int o), some (.ref S6.length), some (.int t), some (.int l), some (.int u), some (.int d), some (phD (.go t u 1)), some (phD (.hold q 2))] := ⟨_, rfl⟩
  obtain ⟨E1, hE1⟩ : ∃ E, E = envD 0 2 [.go t u 1, .stay, .go 0 o 1] := ⟨_, rfl⟩
  obtain ⟨E2, hE2⟩ : ∃ E, E = envD 0 3 [.go t u 1, .go l d 2, .stay, .go 0 o 2] := ⟨_, rfl⟩
  obtain ⟨E3, hE3⟩ : ∃ E, E = envD 0 3 [.jump 0 1, .go t u 2, .stay, .go 0 o 2] := ⟨_, rfl⟩
  obtain ⟨E4, hE4⟩ : ∃ E, E = envD 0 3 [.go t u 1, .hold q 2, .go 0 d 4, .go 0 o 4, .stay] := ⟨_, rfl⟩
  obtain ⟨E5, hE5⟩ : ∃ E, E = envD 0 2 [.jump t 1, .stay, .hold q 3, .go 0 o 1] := ⟨_, rfl⟩
  obtain ⟨E6, hE6⟩ : ∃ E, E = envD 0 2 [.go t u 1, .go l d 0, .go 0 o 3, .stay] := ⟨_, rfl⟩
  have s5 : exec G (callK G T (k + 3)) (.asg (.name 2) (.newL [.tup [.int 0, .int 2, .tup [.var 7, .tup [.str [115, 116, 97, 121]], .tup [.str [103, 111], .int 0, .var 1, .int 1]]]])) [some (.ref n), some (.int o), none, some (.int t), some (.int l), some (.int u), some (.int d), some (phD (.go t u 1)), some (phD (.hold q 2))] S6 = some (.nx ρ (S6 ++ [.lst [E1]])) := by
    rw [hρ, hE1]; exact nr rfl
  have s6 : exec G (callK G T (k + 3)) (.expr (.append (.var 2) (.tup [.int 0, .int 3, .tup [.var 7, .tup [.str [103, 111], .var 4, .var 6, .int 2], .tup [.str [115, 116, 97, 121]], .tup [.str [103, 111], .int 0, .var 1, .int 2]]]))) ρ (S6 ++ [.lst [E1]]) = some (.nx ρ (S6 ++ [.lst [E1, E2]])) := app_st (by rw [hρ]; rfl) (fun _ => by rw [hρ, hE2]; exact nr rfl) (by simp)
  have s7 : exec G (callK G T (k + 3)) (.expr (.append (.var 2) (.tup [.int 0, .int 3, .tup [.tup [.str [106, 117, 109, 112], .int 0, .int 1], .tup [.str [103, 111], .var 3, .var 5, .int 2], .tup [.str [115, 116, 97, 121]], .tup [.str [103, 111], .int 0, .var 1, .int 2]]]))) ρ (S6 ++ [.lst [E1, E2]]) = some (.nx ρ (S6 ++ [.lst [E1, E2, E3]])) := app_st (by rw [hρ]; rfl) (fun _ => by rw [hρ, hE3]; exact nr rfl) (by simp)
  have s8 : exec G (callK G T (k + 3)) (.expr (.append (.var 2) (.tup [.int 0, .int 3, .tup [.var 7, .var 8, .tup [.str [103, 111], .int 0, .var 6, .int 4], .tup [.str [103, 111], .int 0, .var 1, .int 4], .tup [.str [115, 116, 97, 121]]]]))) ρ (S6 ++ [.lst [E1, E2, E3]]) = some (.nx ρ (S6 ++ [.lst [E1, E2, E3, E4]])) := app_st (by rw [hρ]; rfl) (fun _ => by rw [hρ, hE4]; exact nr rfl) (by simp)
  have s9 : exec G (callK G T (k + 3)) (.expr (.append (.var 2) (.tup [.int 0, .int 2, .tup [.tup [.str [106, 117, 109, 112], .var 3, .int 1], .tup [.str [115, 116, 97, 121]], .tup [.str [104, 111, 108, 100], .idx (.var 8) (.int 1), .int 3], .tup [.str [103, 111], .int 0, .var 1, .int 1]]]))) ρ (S6 ++ [.lst [E1, E2, E3, E4]]) = some (.nx ρ (S6 ++ [.lst [E1, E2, E3, E4, E5]])) := app_st (by rw [hρ]; rfl) (fun _ => by rw [hρ, hE5]; exact nr rfl) (by simp)
  have k1 : EnvR E1 := hE1 ▸ known1 (by omega) (by omega) (by omega)
  have k2 : EnvR E2 := hE2 ▸ known2 (by omega) (by omega) (by omega) (by omega) (by omega)
  have k3 : EnvR E3 := hE3 ▸ known3 (by omega) (by omega) (by omega)
  have k4 : EnvR E4 := hE4 ▸ known4 (by omega) (by omega) (by omega) (by omega) (by omega)
  have k5 : EnvR E5 := hE5 ▸ known5 (by omega) (by omega) (by omega)
  have fin : ∀ l : List D, (∀ x ∈ l, EnvR x) → 0 < l.length → l.length < 100 → ∃ (x : D) (S' : Store), execs G (callK G T (k + 3)) [.ret (.call 30 [.var 0, .var 2])] ρ (S6 ++ [.lst l]) = some (.ret x S') ∧ EnvR x ∧ Src S' n := by
    intro l hl h0 h1
    obtain ⟨z1, z2⟩ := src_end f3 (.lst l)
    obtain ⟨x, S', w1, w2, w3, w4⟩ := of_ref_ok (k + 1) (r := S6.length) (xs := l) z1 (by simp) (fun e => z2 e.symm) h0 (by omega)
    exact ⟨x, S', ret_ev (call2_ev (x := .ref n) (y := .ref S6.length) (by rw [hρ]; exact nr rfl) (by rw [hρ]; exact nr rfl) w1) [], hl x w2, w3⟩
  have pre : ∀ {r : Option SR}, execs G (callK G T (k + 3)) [.ifS (.v (.cmp .ne (.var 4) (.var 3))) [
    .expr (.append (.var 2) (.tup [.int 0, .int 2, .tup [.var 7, .tup [.str [103, 111], .var 4, .var 6, .int 0], .tup [.str [103, 111], .int 0, .var 1, .int 3], .tup [.str [115, 116, 97, 121]]]]))] [], .ret (.call 30 [.var 0, .var 2])] ρ (S6 ++ [.lst [E1, E2, E3, E4, E5]]) = r → execs G (callK G T (k + 3)) m_law_known.body [some (.ref n), none, none, none, none, none, none, none, none] S = r := by
    intro r hr
    exact ex_nx s1 (ex_nx s2 (ex_nx s3 (ex_nx s4 (ex_nx s5 (ex_nx s6 (ex_nx s7 (ex_nx s8 (ex_nx s9 hr))))))))
  by_cases hlt : l = t
  · obtain ⟨x, S', g1, g2, g3⟩ := fin [E1, E2, E3, E4, E5] (by intro x hx; simp at hx; rcases hx with rfl | rfl | rfl | rfl | rfl <;> assumption) (by simp) (by simp)
    refine ⟨x, S', run_ret (pre ?_), g2, g3⟩
    refine ex_else (S1 := S6 ++ [.lst [E1, E2, E3, E4, E5]]) ?_ g1
    have e : ((l : Int) == (t : Int)) = true := by simp; omega
    have v3 : ρ[3]? = some (some (.int t)) := by rw [hρ]; rfl
    have v4 : ρ[4]? = some (some (.int l)) := by rw [hρ]; rfl
    simp [v3, v4, e]
  · have k6 : EnvR E6 := hE6 ▸ known6 (by omega) (by omega) (by omega) (by omega) (by omega) hlt
    obtain ⟨x, S', g1, g2, g3⟩ := fin [E1, E2, E3, E4, E5, E6] (by intro x hx; simp at hx; rcases hx with rfl | rfl | rfl | rfl | rfl | rfl <;> assumption) (by simp) (by simp)
    refine ⟨x, S', run_ret (pre ?_), g2, g3⟩
    have s10 : exec G (callK G T (k + 3)) (.expr (.append (.var 2) (.tup [.int 0, .int 2, .tup [.var 7, .tup [.str [103, 111], .var 4, .var 6, .int 0], .tup [.str [103, 111], .int 0, .var 1, .int 3], .tup [.str [115, 116, 97, 121]]]]))) ρ (S6 ++ [.lst [E1, E2, E3, E4, E5]]) = some (.nx ρ (S6 ++ [.lst [E1, E2, E3, E4, E5, E6]])) := app_st (by rw [hρ]; rfl) (fun _ => by rw [hρ, hE6]; exact nr rfl) (by simp)
    refine ex_then (S1 := S6 ++ [.lst [E1, E2, E3, E4, E5]]) ?_ (ex_nx s10 execs_nil) g1
    have e : ((l : Int) == (t : Int)) = false := by simp; omega
    have v3 : ρ[3]? = some (some (.int t)) := by rw [hρ]; rfl
    have v4 : ρ[4]? = some (some (.int l)) := by rw [hρ]; rfl
    simp [v3, v4, e]
end K02
end
section
set_option linter.all false
set_option maxRecDepth 100000
set_option maxHeartbeats 2000000
set_option exponentiation.threshold 5000
set_option autoImplicit false
namespace K02
open KL
/-- a phase put in the place of another -/
def rep (ps : List Ph) (c : Nat) (p : Ph) : List Ph := ps.take c ++ [p] ++ ps.drop (c + 1)
theorem rep_len {ps : List Ph} {c : Nat} {p : Ph} (h : c < ps.length) : (rep ps c p).length = ps.length := by
  unfold rep; simp; omega
theorem rep_gp {ps : List Ph} {c : Nat} {p : Ph} (h : c < ps.length) (gp : ∀ p ∈ ps, gph ps.length p) (hp : gph ps.length p) : ∀ q ∈ rep ps c p, gph (rep ps c p).length q := by
  intro q hq
  rw [rep_len h]
  unfold rep at hq
  rw [List.mem_append, List.mem_append, List.mem_singleton] at hq
  rcases hq with (hq | hq) | hq
  · exact gp q (List.mem_of_mem_take hq)
  · subst hq; exact hp
  · exact gp q (List.mem_of_mem_drop hq)
theorem cut_phs0 (ps : List Ph) (c : Nat) (h : c ≤ ps.length) (S : Store) : cutD (phsD ps) none (some (c : Int)) S = some (.tup ((ps.take c).map phD)) := by
  have e : cutD (phsD ps) none (some (c : Int)) S = some (.tup (((ps.map phD).drop 0).take (cutIx (ps.map phD).length (ps.map phD).length (some (c : Int)) - 0))) := rfl
  have e2 : cutIx (ps.map phD).length (ps.map phD).length (some (c : Int)) = c := by
    unfold cutIx; dsimp only; rw [if_neg (by omega), List.length_map]; simp; omega
  rw [e, e2, Nat.sub_zero, List.drop_zero, List.map_take]
theorem cut_phs1 (ps : List Ph) (c : Nat) (h : c ≤ ps.length) (S : Store) : cutD (phsD ps) (some (c : Int)) none S = some (.tup ((ps.drop c).map phD)) := by
  have e : cutD (phsD ps) (some (c : Int)) none S = some (.tup (((ps.map phD).drop (cutIx (ps.map phD).length 0 (some (c : Int)))).take ((ps.map phD).length - cutIx (ps.map phD).length 0 (some (c : Int))))) := rfl
  have e2 : cutIx (ps.map phD).length 0 (some (c : Int)) = c := by
    unfold cutIx; dsimp only; rw [if_neg (by omega), List.length_map]; simp; omega
  rw [e, e2, List.take_of_length_le (by rw [List.length_drop]; exact Nat.le_refl _), List.map_drop]
theorem add_tup (xs ys : List D) (h : xs.length + ys.length < 1000) (S : Store) : binD .add (.tup xs) (.tup ys) S = some (.tup (xs ++ ys)) := by
  have e : binD .add (.tup xs) (.tup ys) S = if xs.length + ys.length ≤ lineN then some (.tup (xs ++ ys)) else none := rfl
  rw [e, if_pos (by unfold lineN; omega)]
/-- the phases with one put in the place of another, as the law writes it -/
def repE (q : Nat) : ME := .bin .add (.bin .add (.slc (.var 6) none (some (.var 7))) (.tup [.var q])) (.slc (.var 6) (some (.bin .add (.var 7) (.int 1))) none)
theorem rep_ev {C : CallF} {ρ : Env} {S : Store} {ps : List Ph} {c q : Nat} {p : Ph} (h6 : ρ[6]? = some (some (phsD ps))) (h7 : ρ[7]? = some (some (.int c))) (hq : ρ[q]? = some (some (phD p))) (hc : c < ps.length) (l6 : ps.length ≤ 6) : evalE G C (repE q) ρ S = some (.ok (phsD (rep ps c p)) S) := by
  have v6 : evalE G C (.var 6) ρ S = some (.ok (phsD ps) S) := by rw [evalE_var, h6]; rfl
  have v7 : evalE G C (.var 7) ρ S = some (.ok (.int c) S) := by rw [evalE_var, h7]; rfl
  have vq : evalE G C (.var q) ρ S = some (.ok (phD p) S) := by rw [evalE_var, hq]; rfl
  have c0 : evalE G C (.slc (.var 6) none (some (.var 7))) ρ S = some (.ok (.tup ((ps.take c).map phD)) S) := by
    simp only [evalE_slc, v6, bnd_okS, evalO_none, evalO_some, v7, ok_def, cut_phs0 ps c (by omega), lift_some]
  have e1 : (c : Int) + 1 = ((c + 1 : Nat) : Int) := by omega
  have c1 : evalE G C (.slc (.var 6) (some (.bin .add (.var 7) (.int 1))) none) ρ S = some (.ok (.tup ((ps.drop (c + 1)).map phD)) S) := by
    simp only [evalE_slc, v6, bnd_okS, evalO_none, evalO_some, evalE_bin, v7, evalE_int, bin_addI, ok_def, e1, cut_phs1 ps (c + 1) (by omega), lift_some]
  have ct : evalE G C (.tup [.var q]) ρ S = some (.ok (.tup [phD p]) S) := by
    simp only [evalE_tup, evalEs_cons, evalEs_nil, vq, bnd_okS, ok_def]
  have a1 := bin_ev (op := .add) c0 ct (add_tup _ _ (by simp; omega) S)
  have a2 := bin_ev (op := .add) a1 c1 (add_tup _ _ (by simp; omega) S)
  unfold repE
  rw [a2]
  unfold phsD rep
  simp
/-- a phase that leads elsewhere -/
def Ph.to (j : Nat) : Ph → Ph
  | .go g r _ => .go g r j
  | .hold s _ => .hold s j
  | .jump g _ => .jump g j
  | .stay => .stay
theorem to_gph {n j : Nat} {p : Ph} (h : gph n p) (hj : j < n) : gph n (p.to j) := by
  cases p with
  | stay => trivial
  | go g r m => exact ⟨h.1, h.2.1, h.2.2.1, hj⟩
  | hold s m => exact ⟨h.1, h.2.1, hj⟩
  | jump g m => exact ⟨h.1, hj⟩
theorem to_ev {p : Ph} (h : p ≠ .stay) (j : Nat) : ∃ xs, (∀ S, cutD (phD p) none (some (-1)) S = some (.tup xs)) ∧ ∀ S, binD .add (.tup xs) (.tup [.int j]) S = some (phD (p.to j)) := by
  cases p with
  | stay => exact absurd rfl h
  | go g r m => exact ⟨[.str [103, 111], .int g, .int r], fun _ => nr rfl, fun _ => nr rfl⟩
  | hold s m => exact ⟨[.str [104, 111, 108, 100], .int s], fun _ => nr rfl, fun _ => nr rfl⟩
  | jump g m => exact ⟨[.str [106, 117, 109, 112], .int g], fun _ => nr rfl, fun _ => nr rfl⟩
theorem len_phs2 (ps : List Ph) (S : Store) : bfD .len [phsD ps] S = some (.int ps.length) := len_phs ps S
theorem word_eq_stay (p : Ph) : (p.word == [115, 116, 97, 121]) = decide (p = .stay) := by cases p <;> simp [Ph.word]
theorem bent_ok (k : Nat) {S : Store} {n : Nat} (h : Src S n) {d : D} (hd : EnvR d) : ∃ (d' : D) (S' : Store), callK G T (k + 4) i_law_bent [.ref n, d] S = some (.ok d' S') ∧ EnvR d' ∧ Src S' n := by
  obtain ⟨pr, re, ps, rfl, gr, hpr, hre⟩ := hd
  have l1 := gr.l1
  have l6 := gr.l6
  obtain ⟨c, S1, a1, a2, a3, a4⟩ := drw (k + 2) h ps.length (by omega) (by omega)
  obtain ⟨w, S2, b1, b2, b3, b4⟩ := drw (k + 2) a3 4 (by omega) (by omega)
  have b1 : callK G T (k + 3) i_law_draw [.ref n, .int 4] S1 = some (.ok (.int w) S2) := b1
  obtain ⟨o, S3, c1, c2, c3, c4⟩ := phase_ok k b3 (many := ps.length) (by omega) (by omega)
  obtain ⟨p, hp⟩ : ∃ p, ps[c]? = some p := ⟨_, List.getElem?_eq_getElem a2⟩
  have hix := idx_phs hp
  have gm := gp_mem gr.gp
  rw [call_imp (d := m_law_bent) rfl rfl rfl]
  let ρ2 : Env := [some (.ref n), some (envD pr re ps), some (phD o), none, some (.int pr), some (.int re), some (phsD ps), some (.int c), some (.int w), none]
  have s1 : exec G (callK G T (k + 3)) (.asg (.tup [.name 4, .name 5, .name 6]) (.var 1)) [some (.ref n), some (envD pr re ps), none, none, none, none, none, none, none, none] S = some (.nx [some (.ref n), some (envD pr re ps), none, none, some (.int pr), some (.int re), some (phsD ps), none, none, none] S) := nr rfl
  have s2 : exec G (callK G T (k + 3)) (.asg (.tup [.name 7, .name 8]) (.tup [.call 29 [.var 0, .callB .len [.var 6]], .call 29 [.var 0, .int 4]])) [some (.ref n), some (envD pr re ps), none, none, some (.int pr), some (.int re), some (phsD ps), none, none, none] S = some (.nx [some (.ref n), some (envD pr re ps), none, none, some (.int pr), some (.int re), some (phsD ps), some (.int c), some (.int w), none] S2) := by
    simp [len_phs, a1, b1]
  have s3 : exec G (callK G T (k + 3)) (.asg (.name 2) (.call 31 [.var 0, .callB .len [.var 6]])) [some (.ref n), some (envD pr re ps), none, none, some (.int pr), some (.int re), some (phsD ps), some (.int c), some (.int w), none] S2 = some (.nx ρ2 S3) := by
    simp [len_phs, c1, ρ2]
  have s4 : exec G (callK G T (k + 3)) (.asg (.name 3) (.tup [.var 4, .var 5, repE 2])) ρ2 S3 = some (.nx (ρ2.set 3 (some (envD pr re (rep ps c o)))) S3) := by
    have r := rep_ev (C := callK G T (k + 3)) (S := S3) (ρ := ρ2) (q := 2) (p := o) rfl rfl rfl a2 l6
    have v4 : evalE G (callK G T (k + 3)) (.var 4) ρ2 S3 = some (.ok (.int pr) S3) := nr rfl
    have v5 : evalE G (callK G T (k + 3)) (.var 5) ρ2 S3 = some (.ok (.int re) S3) := nr rfl
    refine asg_ev ?_
    simp only [evalE_tup, evalEs_cons, evalEs_nil, v4, v5, r, bnd_okS, ok_def]
    rfl
  -- the end
  have fin : ∀ (ρ : Env) (S' : Store) (pr' re' : Nat) (qs : List Ph), ρ[1]? = some (some (envD pr re ps)) → ρ[3]? = some (some (envD pr' re' qs)) → qs.length = ps.length → (∀ q ∈ qs, gph qs.length q) → pr' < ps.length → re' < ps.length → Src S' n →
      ∃ d', execs G (callK G T (k + 3)) [.ret (.ife (.v (.call 34 [.var 3])) (.var 3) (.var 1))] ρ S' = some (.ret d' S') ∧ EnvR d' := by
    intro ρ S' pr' re' qs h1 h3 hl hq hp' hr' hs
    obtain ⟨b, e1, e2⟩ := law_good_ok (k + 1) (gp_of hq) (by omega) pr' re'
    have v1 : evalE G (callK G T (k + 3)) (.var 1) ρ S' = some (.ok (envD pr re ps) S') := by rw [evalE_var, h1]; rfl
    have v3 : evalE G (callK G T (k + 3)) (.var 3) ρ S' = some (.ok (envD pr' re' qs) S') := by rw [evalE_var, h3]; rfl
    have vc : evalE G (callK G T (k + 3)) (.call 34 [.var 3]) ρ S' = some (.ok (.bl b) S') := by
      simp only [evalE_call, evalEs_cons, evalEs_nil, v3, bnd_okS, ok_def, e1]
    refine ⟨if b then envD pr' re' qs else envD pr re ps, ret_ev ?_ [], ?_⟩
    · simp only [evalE_ife, evalT_v, vc, bnd_okS, truD_bl, lift_some]
      cases b
      · simp [v1]
      · simp [v3]
    · cases b with
      | false => exact ⟨pr, re, ps, rfl, gr, hpr, hre⟩
      | true => exact ⟨pr', re', qs, rfl, ⟨by omega, by omega, gp_of hq, e2 rfl⟩, by omega, by omega⟩
  have hw : w = 0 ∨ w = 1 ∨ w = 2 ∨ w = 3 := by omega
  let ρ3 : Env := [some (.ref n), some (envD pr re ps), some (phD o), some (envD pr re (rep ps c o)), some (.int pr), some (.int re), some (phsD ps), some (.int c), some (.int w), none]
  have pre : ∀ {r : Option SR}, execs G (callK G T (k + 3)) (m_law_bent.body.drop 4) ρ3 S3 = r → execs G (callK G T (k + 3)) m_law_bent.body [some (.ref n), some (envD pr re ps), none, none, none, none, none, none, none, none] S = r := by
    intro r hr
    show execs G (callK G T (k + 3)) (.asg (.tup [.name 4, .name 5, .name 6]) (.var 1) :: .asg (.tup [.name 7, .name 8]) (.tup [.call 29 [.var 0, .callB .len [.var 6]], .call 29 [.var 0, .int 4]]) :: .asg (.name 2) (.call 31 [.var 0, .callB .len [.var 6]]) :: .asg (.name 3) (.tup [.var 4, .var 5, repE 2]) :: m_law_bent.body.drop 4) _ _ = _
    exact ex_nx s1 (ex_nx s2 (ex_nx s3 (ex_nx s4 hr)))
  let i1 : MS := .ifS (.and [.v (.cmp .eq (.var 8) (.int 1)), .v (.cmp .ne (.idx (.idx (.var 6) (.var 7)) (.int 0)) (.str [115, 116, 97, 121]))]) [
    .asg (.name 9) (.bin .add (.slc (.idx (.var 6) (.var 7)) none (some (.neg (.int 1)))) (.tup [.call 29 [.var 0, .callB .len [.var 6]]])), 
    .asg (.name 3) (.tup [.var 4, .var 5, repE 9])] []
  let i2 : MS := .ifS (.v (.cmp .eq (.var 8) (.int 2))) [
    .asg (.name 3) (.tup [.var 4, .var 7, .var 6])] []
  let i3 : MS := .ifS (.and [.v (.cmp .eq (.var 8) (.int 3)), .v (.cmp .eq (.idx (.idx (.var 6) (.var 7)) (.int 0)) (.str [103, 111]))]) [
    .asg (.name 2) (.tup [.str [103, 111], .idx (.idx (.var 6) (.var 7)) (.int 1), .bin .add (.int 1) (.call 29 [.var 0, .int 6]), .idx (.idx (.var 6) (.var 7)) (.int 3)]), 
    .asg (.name 3) (.tup [.var 4, .var 5, repE 2])] []
  have tail : m_law_bent.body.drop 4 = [i1, i2, i3, .ret (.ife (.v (.call 34 [.var 3])) (.var 3) (.var 1))] := rfl
  rw [tail] at pre
  have f1 : ∀ (ρ : Env) (S' : Store), w ≠ 1 → ρ[8]? = some (some (.int w)) → evalT G (callK G T (k + 3)) (.and [.v (.cmp .eq (.var 8) (.int 1)), .v (.cmp .ne (.idx (.idx (.var 6) (.var 7)) (.int 0)) (.str [115, 116, 97, 121]))]) ρ S' = some (.ok false S') := by
    intro ρ S' hne h8
    have e : ((w : Int) == 1) = false := by simp; omega
    simp [h8, e]
  have f2 : ∀ (ρ : Env) (S' : Store), w ≠ 2 → ρ[8]? = some (some (.int w)) → evalT G (callK G T (k + 3)) (.v (.cmp .eq (.var 8) (.int 2))) ρ S' = some (.ok false S') := by
    intro ρ S' hne h8
    have e : ((w : Int) == 2) = false := by simp; omega
    simp [h8, e]
  have f3 : ∀ (ρ : Env) (S' : Store), w ≠ 3 → ρ[8]? = some (some (.int w)) → evalT G (callK G T (k + 3)) (.and [.v (.cmp .eq (.var 8) (.int 3)), .v (.cmp .eq (.idx (.idx (.var 6) (.var 7)) (.int 0)) (.str [103, 111]))]) ρ S' = some (.ok false S') := by
    intro ρ S' hne h8
    have e : ((w : Int) == 3) = false := by simp; omega
    simp [h8, e]
  have plain : (execs G (callK G T (k + 3)) [i1, i2, i3, .ret (.ife (.v (.call 34 [.var 3])) (.var 3) (.var 1))] ρ3 S3 = execs G (callK G T (k + 3)) [.ret (.ife (.v (.call 34 [.var 3])) (.var 3) (.var 1))] ρ3 S3) → ∃ (d' : D) (S' : Store), runBody G (callK G T (k + 3)) m_law_bent [.ref n, envD pr re ps] S = some (.ok d' S') ∧ EnvR d' ∧ Src S' n := by
    intro e
    obtain ⟨d', g1, g2⟩ := fin ρ3 S3 pr re (rep ps c o) rfl rfl (rep_len a2) (rep_gp a2 gm c2) hpr hre c3
    exact ⟨d', S3, run_ret (pre (e.trans g1)), g2, c3⟩
  have v6 : ∀ S', idxD (phsD ps) (.int c) S' = some (phD p) := hix
  have r6 : ρ3[6]? = some (some (phsD ps)) := rfl
  have r7 : ρ3[7]? = some (some (.int c)) := rfl
  have r8 : ρ3[8]? = some (some (.int w)) := rfl
  have r0 : ρ3[0]? = some (some (.ref n)) := rfl
  have r4 : ρ3[4]? = some (some (.int pr)) := rfl
  have r5 : ρ3[5]? = some (some (.int re)) := rfl
  rcases hw with h0 | h0 | h0 | h0
  · exact plain (ex_else (f1 _ _ (by omega) r8) (ex_else (f2 _ _ (by omega) r8) (ex_else (f3 _ _ (by omega) r8) rfl)))
  · by_cases hst : p = .stay
    · subst hst
      refine plain (ex_else (S1 := S3) ?_ (ex_else (f2 _ _ (by omega) r8) (ex_else (f3 _ _ (by omega) r8) rfl)))
      have e : ((w : Int) == 1) = true := by simp; omega
      simp [r6, r7, r8, e, v6, idx_word, Ph.word]
    · obtain ⟨j, S4, d1, d2, d3, d4⟩ := drw (k + 2) c3 ps.length (by omega) (by omega)
      obtain ⟨xs, cc, x2⟩ := to_ev hst j
      have t1 : evalT G (callK G T (k + 3)) (.and [.v (.cmp .eq (.var 8) (.int 1)), .v (.cmp .ne (.idx (.idx (.var 6) (.var 7)) (.int 0)) (.str [115, 116, 97, 121]))]) ρ3 S3 = some (.ok true S3) := by
        have e : ((w : Int) == 1) = true := by simp; omega
        have e2 := word_eq_stay p
        have e3 : decide (p = Ph.stay) = false := by simp [hst]
        rw [e3] at e2
        simp only [evalT_and, evalTs_cons, evalTs_nil, evalT_v, evalE_cmp, evalE_var, r8, r6, r7, ok_def, bnd_okS, evalE_int, cmp_eqii, e, truD_bl, lift_some, evalE_idx, v6, idx_word, evalE_str, cmp_ness, e2]
        rfl
      have u1 : exec G (callK G T (k + 3)) (.asg (.name 9) (.bin .add (.slc (.idx (.var 6) (.var 7)) none (some (.neg (.int 1)))) (.tup [.call 29 [.var 0, .callB .len [.var 6]]]))) ρ3 S3 = some (.nx (ρ3.set 9 (some (phD (p.to j)))) S4) := by
        refine asg_ev ?_
        simp only [evalE_bin, evalE_slc, evalE_idx, evalE_var, r6, r7, ok_def, bnd_okS, v6, lift_some, evalO_none, evalO_some, evalE_neg, evalE_int, cc, evalE_tup, evalEs_cons, evalEs_nil, evalE_call, r0, evalE_callB, len_phs, d1, x2]
      have u2 : exec G (callK G T (k + 3)) (.asg (.name 3) (.tup [.var 4, .var 5, repE 9])) (ρ3.set 9 (some (phD (p.to j)))) S4 = some (.nx ((ρ3.set 9 (some (phD (p.to j)))).set 3 (some (envD pr re (rep ps c (p.to j))))) S4) := by
        have r := rep_ev (C := callK G T (k + 3)) (S := S4) (ρ := ρ3.set 9 (some (phD (p.to j)))) (q := 9) (p := p.to j) rfl rfl rfl a2 l6
        have v4 : evalE G (callK G T (k + 3)) (.var 4) (ρ3.set 9 (some (phD (p.to j)))) S4 = some (.ok (.int pr) S4) := nr rfl
        have v5 : evalE G (callK G T (k + 3)) (.var 5) (ρ3.set 9 (some (phD (p.to j)))) S4 = some (.ok (.int re) S4) := nr rfl
        refine asg_ev ?_
        simp only [evalE_tup, evalEs_cons, evalEs_nil, v4, v5, r, bnd_okS, ok_def]
        rfl
      obtain ⟨d', g1, g2⟩ := fin ((ρ3.set 9 (some (phD (p.to j)))).set 3 (some (envD pr re (rep ps c (p.to j))))) S4 pr re (rep ps c (p.to j)) rfl rfl (rep_len a2) (rep_gp a2 gm (to_gph (gr.gp c p hp) d2)) hpr hre d3
      exact ⟨d', S4, run_ret (pre (ex_then t1 (ex_nx u1 (ex_nx u2 execs_nil)) (ex_else (f2 _ _ (by omega) rfl) (ex_else (f3 _ _ (by omega) rfl) g1)))), g2, d3⟩
  · have t2 : evalT G (callK G T (k + 3)) (.v (.cmp .eq (.var 8) (.int 2))) ρ3 S3 = some (.ok true S3) := by
      have e : ((w : Int) == 2) = true := by simp; omega
      simp [r8, e]
    have u1 : exec G (callK G T (k + 3)) (.asg (.name 3) (.tup [.var 4, .var 7, .var 6])) ρ3 S3 = some (.nx (ρ3.set 3 (some (envD pr c ps))) S3) := nr rfl
    obtain ⟨d', g1, g2⟩ := fin (ρ3.set 3 (some (envD pr c ps))) S3 pr c ps rfl rfl rfl gm hpr a2 c3
    exact ⟨d', S3, run_ret (pre (ex_else (f1 _ _ (by omega) r8) (ex_then t2 (ex_nx u1 execs_nil) (ex_else (f3 _ _ (by omega) rfl) g1)))), g2, c3⟩
  · have e : ((w : Int) == 3) = true := by simp; omega
    by_cases hgo : ∃ g r m, p = .go g r m
    · obtain ⟨g, r, m, rfl⟩ := hgo
      obtain ⟨j, S4, d1, d2, d3, d4⟩ := drw (k + 2) c3 6 (by omega) (by omega)
      have d1 : callK G T (k + 3) i_law_draw [.ref n, .int 6] S3 = some (.ok (.int j) S4) := d1
      have gp := gr.gp c _ hp
      have t3 : evalT G (callK G T (k + 3)) (.and [.v (.cmp .eq (.var 8) (.int 3)), .v (.cmp .eq (.idx (.idx (.var 6) (.var 7)) (.int 0)) (.str [103, 111]))]) ρ3 S3 = some (.ok true S3) := by
        simp [r6, r7, r8, e, v6, idx_word, Ph.word]
      have ig : ∀ S, idxD (phD (.go g r m)) (.int 1) S = some (.int g) := fun _ => nr rfl
      have i3' : ∀ S, idxD (phD (.go g r m)) (.int 3) S = some (.int m) := fun _ => nr rfl
      have ej : (1 : Int) + (j : Int) = ((1 + j : Nat) : Int) := by omega
      have u1 : exec G (callK G T (k + 3)) (.asg (.name 2) (.tup [.str [103, 111], .idx (.idx (.var 6) (.var 7)) (.int 1), .bin .add (.int 1) (.call 29 [.var 0, .int 6]), .idx (.idx (.var 6) (.var 7)) (.int 3)])) ρ3 S3 = some (.nx (ρ3.set 2 (some (phD (.go g (1 + j) m)))) S4) := by
        refine asg_ev ?_
        simp only [evalE_tup, evalEs_cons, evalEs_nil, evalE_str, evalE_idx, evalE_var, r6, r7, ok_def, bnd_okS, v6, lift_some, evalE_int, ig, evalE_bin, evalE_call, r0, d1, bin_addI, ej, i3']
        rfl
      have u2 : exec G (callK G T (k + 3)) (.asg (.name 3) (.tup [.var 4, .var 5, repE 2])) (ρ3.set 2 (some (phD (.go g (1 + j) m)))) S4 = some (.nx ((ρ3.set 2 (some (phD (.go g (1 + j) m)))).set 3 (some (envD pr re (rep ps c (.go g (1 + j) m))))) S4) := by
        have r := rep_ev (C := callK G T (k + 3)) (S := S4) (ρ := ρ3.set 2 (some (phD (.go g (1 + j) m)))) (q := 2) (p := .go g (1 + j) m) rfl rfl rfl a2 l6
        have v4 : evalE G (callK G T (k + 3)) (.var 4) (ρ3.set 2 (some (phD (.go g (1 + j) m)))) S4 = some (.ok (.int pr) S4) := nr rfl
        have v5 : evalE G (callK G T (k + 3)) (.var 5) (ρ3.set 2 (some (phD (.go g (1 + j) m)))) S4 = some (.ok (.int re) S4) := nr rfl
        refine asg_ev ?_
        simp only [evalE_tup, evalEs_cons, evalEs_nil, v4, v5, r, bnd_okS, ok_def]
        rfl
      obtain ⟨d', g1, g2⟩ := fin ((ρ3.set 2 (some (phD (.go g (1 + j) m)))).set 3 (some (envD pr re (rep ps c (.go g (1 + j) m))))) S4 pr re (rep ps c (.go g (1 + j) m)) rfl rfl (rep_len a2) (rep_gp a2 gm ⟨gp.1, by omega, by omega, gp.2.2.2⟩) hpr hre d3
      exact ⟨d', S4, run_ret (pre (ex_else (f1 _ _ (by omega) r8) (ex_else (f2 _ _ (by omega) r8) (ex_then t3 (ex_nx u1 (ex_nx u2 execs_nil)) g1)))), g2, d3⟩
    · refine plain (ex_else (f1 _ _ (by omega) r8) (ex_else (f2 _ _ (by omega) r8) (ex_else (S1 := S3) ?_ rfl)))
      cases p with
      | go g r m => exact absurd ⟨g, r, m, rfl⟩ hgo
      | hold s m => simp [r6, r7, r8, e, v6, idx_word, Ph.word]
      | jump g m => simp [r6, r7, r8, e, v6, idx_word, Ph.word]
      | stay => simp [r6, r7, r8, e, v6, idx_word, Ph.word]
end K02
end
section
set_option linter.all false
set_option maxRecDepth 100000
set_option maxHeartbeats 2000000
set_option exponentiation.threshold 5000
set_option autoImplicit false
namespace K02
open KL
theorem bent_loop (k : Nat) {n : Nat} (w : D) : ∀ (m c : Nat) {S : Store} {d : D} (x : Option D), Src S n → EnvR d → ∃ (d' : D) (S' : Store) (y : Option D), EnvR d' ∧ Src S' n ∧
    loopF (fun d ρ S => asgT G (callK G T (k + 4)) (.name 3) d ρ S) (fun ρ S => execs G (callK G T (k + 4)) [.asg (.name 2) (.call i_law_bent [.var 0, .var 2])] ρ S) (rangeL c 1 m) [some (.ref n), some w, some d, x] S = some (.nx [some (.ref n), some w, some d', y] S')
  | 0, c, S, d, x, hs, hd => ⟨d, S, x, hd, hs, rfl⟩
  | m + 1, c, S, d, x, hs, hd => by
    obtain ⟨d1, S1, b1, b2, b3⟩ := bent_ok k hs hd
    obtain ⟨d2, S2, y, e1, e2, e3⟩ := bent_loop k w m (c + 1) (some (.int c)) b3 b2
    have er : rangeL (c : Int) 1 (m + 1) = .int c :: rangeL ((c + 1 : Nat) : Int) 1 m := rfl
    refine ⟨d2, S2, y, e1, e2, ?_⟩
    rw [er]
    refine loopF_more (ρ1 := [some (.ref n), some w, some d, some (.int c)]) (S1 := S) (by simp) ?_ e3
    exact ex_nx (asg_ev (call2_ev (x := .ref n) (y := d) (nr rfl) (nr rfl) b1)) execs_nil
theorem envelope_ok (k : Nat) {S : Store} {n : Nat} (h : Src S n) : ∃ (d : D) (S' : Store), callK G T (k + 5) i_law_envelope [.ref n] S = some (.ok d S') ∧ EnvR d ∧ Src S' n := by
  obtain ⟨w, S1, a1, a2, a3, a4⟩ := drw (k + 3) h 5 (by omega) (by omega)
  have a1 : callK G T (k + 4) i_law_draw [.ref n, .int 5] S = some (.ok (.int w) S1) := a1
  rw [call_imp (d := m_law_envelope) rfl rfl rfl]
  have s1 : exec G (callK G T (k + 4)) (.asg (.name 1) (.call i_law_draw [.var 0, .int 5])) [some (.ref n), none, none, none] S = some (.nx [some (.ref n), some (.int w), none, none] S1) := by
    simp [a1]
  by_cases h4 : w = 4
  · obtain ⟨d, S2, b1, b2, b3, b4⟩ := any_ok k a3
    refine ⟨d, S2, run_ret ?_, b2, b3⟩
    refine ex_nx s1 (ex_if (S1 := S1) (by subst h4; simp) (ret_ev ?_ _))
    have e1 : evalE G (callK G T (k + 4)) (.var 0) [some (.ref n), some (.int w), none, none] S1 = some (.ok (.ref n) S1) := nr rfl
    simp only [evalE_call, evalEs_cons, evalEs_nil, e1, bnd_okS, ok_def, b1]
  · obtain ⟨d, S2, b1, b2, b3⟩ := known_ok k a3
    obtain ⟨d2, S3, y, e1, e2, e3⟩ := bent_loop k (.int w) (w - 1) 0 none b3 b2
    refine ⟨d2, S3, run_ret ?_, e1, e2⟩
    have e4 : ((w : Int) == 4) = false := by simp; omega
    have v0 : evalE G (callK G T (k + 4)) (.var 0) [some (.ref n), some (.int w), none, none] S1 = some (.ok (.ref n) S1) := nr rfl
    have s2 : exec G (callK G T (k + 4)) (.asg (.name 2) (.call i_law_known [.var 0])) [some (.ref n), some (.int w), none, none] S1 = some (.nx [some (.ref n), some (.int w), some d, none] S2) := by
      rw [exec_asg]
      simp only [evalE_call, evalEs_cons, evalEs_nil, v0, bnd_okS, ok_def, b1, bndS_okS]
      rfl
    refine ex_nx s1 (ex_else (S1 := S1) (by simp [e4]) (ex_nx s2 (ex_nx (exec_forR (xs := rangeL ((0 : Nat) : Int) 1 (w - 1)) (S1 := S2) ?_ e3) (ret_ev (by simp) []))))
    have hr := rng1 (w - 1) (by omega)
    have em : bfD .max2 [.int 0, .int ((w : Int) - 1)] S2 = some (.int ((w - 1 : Nat) : Int)) := by
      have e : (if (w : Int) - 1 > 0 then (w : Int) - 1 else 0) = ((w - 1 : Nat) : Int) := by split <;> omega
      rw [bf_max2, e]
    have v1 : evalE G (callK G T (k + 4)) (.callB .max2 [.int 0, .bin .sub (.var 1) (.int 1)]) [some (.ref n), some (.int w), some d, none] S2 = some (.ok (.int ((w - 1 : Nat) : Int)) S2) := by
      have v1 : evalE G (callK G T (k + 4)) (.var 1) [some (.ref n), some (.int w), some d, none] S2 = some (.ok (.int w) S2) := nr rfl
      simp only [evalE_callB, evalEs_cons, evalEs_nil, evalE_int, evalE_bin, v1, bnd_okS, ok_def, bin_subI, lift_some, em]
    simp only [evalI_rng, evalEs_cons, evalEs_nil, v1, bnd_okS, ok_def, hr]
    rfl
/-- a row as the law draws it -/
structure RowR (g : Nat) (al : List Nat) (mo : Nat) : Prop where
  pw : al.Pairwise (· ≤ ·)
  le : ∀ x ∈ al, x ≤ mo
  last : al = [] ∨ al.getLast? = some mo
theorem RowR.more {g : Nat} {al : List Nat} {mo x : Nat} (h : RowR g al mo) : RowR g (al ++ [mo + x]) (mo + x) := by
  refine ⟨?_, ?_, .inr (by simp)⟩
  · rw [List.pairwise_append]
    refine ⟨h.pw, by simp, ?_⟩
    intro a ha b hb
    rw [List.mem_singleton] at hb
    have := h.le a ha
    omega
  · intro a ha
    rw [List.mem_append, List.mem_singleton] at ha
    rcases ha with ha | ha
    · have := h.le a ha; omega
    · omega
def wb : List MS := [
    .asg (.name 7) (.lst [.int 0, .var 4, .call i_law_draw [.var 0, .bin .add (.bin .mul (.var 4) (.var 2)) (.int 1)], .call i_law_draw [.var 0, .bin .mul (.int 3) (.var 4)]]), 
    .asg (.name 5) (.bin .add (.var 5) (.call i_law_of [.var 0, .var 7])), 
    .asg (.name 6) (.bin .add (.var 6) (.tup [.var 5]))]
theorem row_gen (k : Nat) {n g : Nat} (hg : 0 < g) (hg2 : g ≤ 1000) : ∀ (m c : Nat) {S : Store} {al : List Nat} {mo : Nat} (x3 x7 : Option D), Src S n → RowR g al mo → mo ≤ 6 * g * c → al.length = c → c + m ≤ 8 →
    ∃ (al' : List Nat) (mo' : Nat) (S' : Store) (y3 y7 : Option D), RowR g al' mo' ∧ mo' ≤ 6 * g * (c + m) ∧ al'.length = c + m ∧ Src S' n ∧
      loopF (fun d ρ S => asgT G (callK G T (k + 2)) (.name 3) d ρ S) (fun ρ S => execs G (callK G T (k + 2)) wb ρ S) (rangeL c 1 m) [some (.ref n), some (.int 8), some (.int 6), x3, some (.int g), some (.int mo), some (.tup (intsD al)), x7] S =
        some (.nx [some (.ref n), some (.int 8), some (.int 6), y3, some (.int g), some (.int mo'), some (.tup (intsD al')), y7] S')
  | 0, c, S, al, mo, x3, x7, hs, hr, hm, hl, hc => ⟨al, mo, S, x3, x7, hr, hm, hl, hs, rfl⟩
  | m + 1, c, S, al, mo, x3, x7, hs, hr, hm, hl, hc => by
    obtain ⟨u, S1, a1, a2, a3, a4⟩ := drw (k + 1) hs (g * 6 + 1) (by omega) (by omega)
    obtain ⟨v, S2, b1, b2, b3, b4⟩ := drw (k + 1) a3 (3 * g) (by omega) (by omega)
    obtain ⟨d, S3, c1, c2, c3, c4⟩ := of_ok k (xs := [.int 0, .int g, .int u, .int v]) b3 (by simp) (by simp)
    obtain ⟨x, hx, hx2⟩ : ∃ x : Nat, d = .int x ∧ x ≤ 6 * g := by
      simp only [List.mem_cons, List.not_mem_nil, or_false] at c2
      rcases c2 with h | h | h | h
      · exact ⟨0, h, by omega⟩
      · exact ⟨g, h, by omega⟩
      · exact ⟨u, h, by omega⟩
      · exact ⟨v, h, by omega⟩
    subst hx
    have hm2 : mo + x ≤ 6 * g * (c + 1) := by rw [Nat.mul_succ]; omega
    obtain ⟨al', mo', S', y3, y7, e1, e2, e3, e4, e5⟩ := row_gen k hg hg2 m (c + 1) (some (.int c)) (some (.lst [.int 0, .int g, .int u, .int v])) c3 (hr.more (x := x)) hm2 (by simp [hl]) (by omega)
    have ec : c + 1 + m = c + (m + 1) := by omega
    rw [ec] at e2 e3
    refine ⟨al', mo', S', y3, y7, e1, e2, e3, e4, ?_⟩
    have er : rangeL (c : Int) 1 (m + 1) = .int c :: rangeL ((c + 1 : Nat) : Int) 1 m := rfl
    rw [er]
    refine loopF_more (ρ1 := [some (.ref n), some (.int 8), some (.int 6), some (.int c), some (.int g), some (.int mo), some (.tup (intsD al)), x7]) (S1 := S) (by simp) ?_ e5
    have m1 : ∀ S, binD .mul (.int (g : Int)) (.int 6) S = some (.int (g * 6)) := fun S => bin_mulI _ _ (mulOk_right (by omega))
    have m2 : ∀ S, binD .mul (.int 3) (.int (g : Int)) S = some (.int (3 * g)) := fun S => bin_mulI _ _ (mulOk_left (by omega))
    have q1 : ((g * 6 + 1 : Nat) : Int) = (g : Int) * 6 + 1 := by omega
    have q2 : ((3 * g : Nat) : Int) = 3 * (g : Int) := by omega
    rw [q1] at a1
    rw [q2] at b1
    have q3 : (mo : Int) + (x : Int) = ((mo + x : Nat) : Int) := by omega
    have ad := add_tup (intsD al) [.int ((mo + x : Nat) : Int)] (by rw [len_ints]; simp; omega) S3
    have q4 : intsD al ++ [.int ((mo + x : Nat) : Int)] = intsD (al ++ [mo + x]) := by simp [intsD]
    rw [q4] at ad
    have t1 : exec G (callK G T (k + 2)) (.asg (.name 7) (.lst [.int 0, .var 4, .call i_law_draw [.var 0, .bin .add (.bin .mul (.var 4) (.var 2)) (.int 1)], .call i_law_draw [.var 0, .bin .mul (.int 3) (.var 4)]])) [some (.ref n), some (.int 8), some (.int 6), some (.int c), some (.int g), some (.int mo), some (.tup (intsD al)), x7] S = some (.nx [some (.ref n), some (.int 8), some (.int 6), some (.int c), some (.int g), some (.int mo), some (.tup (intsD al)), some (.lst [.int 0, .int g, .int u, .int v])] S2) := by
      simp [m1, m2, a1, b1]
    have t2 : exec G (callK G T (k + 2)) (.asg (.name 5) (.bin .add (.var 5) (.call i_law_of [.var 0, .var 7]))) [some (.ref n), some (.int 8), some (.int 6), some (.int c), some (.int g), some (.int mo), some (.tup (intsD al)), some (.lst [.int 0, .int g, .int u, .int v])] S2 = some (.nx [some (.ref n), some (.int 8), some (.int 6), some (.int c), some (.int g), some (.int (mo + x : Nat)), some (.tup (intsD al)), some (.lst [.int 0, .int g, .int u, .int v])] S3) := by
      refine asg_ev (bin_ev (x := .int mo) (y := .int x) (S1 := S2) (nr rfl) (call2_ev (x := .ref n) (y := .lst [.int 0, .int g, .int u, .int v]) (nr rfl) (nr rfl) c1) ?_)
      rw [bin_addI, q3]
    have t3 : exec G (callK G T (k + 2)) (.asg (.name 6) (.bin .add (.var 6) (.tup [.var 5]))) [some (.ref n), some (.int 8), some (.int 6), some (.int c), some (.int g), some (.int (mo + x : Nat)), some (.tup (intsD al)), some (.lst [.int 0, .int g, .int u, .int v])] S3 = some (.nx [some (.ref n), some (.int 8), some (.int 6), some (.int c), some (.int g), some (.int (mo + x : Nat)), some (.tup (intsD (al ++ [mo + x]))), some (.lst [.int 0, .int g, .int u, .int v])] S3) := by
      refine asg_ev (bin_ev (x := .tup (intsD al)) (y := .tup [.int ((mo + x : Nat) : Int)]) (nr rfl) (nr rfl) ad)
    exact ex_nx t1 (ex_nx t2 (ex_nx t3 execs_nil))
theorem row_ok (k : Nat) {S : Store} {n : Nat} (h : Src S n) : ∃ (g mo : Nat) (al : List Nat) (S' : Store), callK G T (k + 3) i_law_row [.ref n, .int 8, .int 6] S = some (.ok (rowD g al) S') ∧ 0 < g ∧ g ≤ 1000 ∧ RowR g al mo ∧ mo ≤ 48 * g ∧ al.length ≤ 8 ∧ Src S' n := by
  obtain ⟨d, S1, a1, a2, a3, a4⟩ := of_ok k (xs := [.int 1, .int 2, .int 3, .int 7, .int 12, .int 1000]) h (by simp) (by simp)
  obtain ⟨g, hg, g0, g1⟩ : ∃ g : Nat, d = .int g ∧ 0 < g ∧ g ≤ 1000 := by
    simp only [List.mem_cons, List.not_mem_nil, or_false] at a2
    rcases a2 with h | h | h | h | h | h
    · exact ⟨1, h, by omega, by omega⟩
    · exact ⟨2, h, by omega, by omega⟩
    · exact ⟨3, h, by omega, by omega⟩
    · exact ⟨7, h, by omega, by omega⟩
    · exact ⟨12, h, by omega, by omega⟩
    · exact ⟨1000, h, by omega, by omega⟩
  subst hg
  obtain ⟨m, S2, b1, b2, b3, b4⟩ := drw (k + 1) a3 9 (by omega) (by omega)
  have b1 : callK G T (k + 2) i_law_draw [.ref n, .int 9] S1 = some (.ok (.int m) S2) := b1
  obtain ⟨al, mo, S3, y3, y7, e1, e2, e3, e4, e5⟩ := row_gen k g0 g1 m 0 (al := []) (mo := 0) none none b3 ⟨by simp, by simp, .inl rfl⟩ (by omega) rfl (by omega)
  refine ⟨g, mo, al, S3, ?_, g0, g1, e1, ?_, by omega, e4⟩
  · rw [call_imp (d := m_law_row) rfl rfl rfl]
    refine run_ret ?_
    have t1 : exec G (callK G T (k + 2)) (.asg (.tup [.name 4, .name 5, .name 6]) (.tup [.call i_law_of [.var 0, .lst [.int 1, .int 2, .int 3, .int 7, .int 12, .int 1000]], .int 0, .tup []])) [some (.ref n), some (.int 8), some (.int 6), none, none, none, none, none] S = some (.nx [some (.ref n), some (.int 8), some (.int 6), none, some (.int g), some (.int 0), some (.tup (intsD [])), none] S1) := by
      have e0 : intsD [] = [] := rfl
      simp [a1, e0]
    have hr := rng1 m (by omega)
    refine ex_nx t1 (ex_nx (exec_forR (xs := rangeL ((0 : Nat) : Int) 1 m) (S1 := S2) ?_ e5) (ret_ev (by simp [rowD]) []))
    have v0 : evalE G (callK G T (k + 2)) (.var 0) [some (.ref n), some (.int 8), some (.int 6), none, some (.int g), some (.int 0), some (.tup (intsD [])), none] S1 = some (.ok (.ref n) S1) := nr rfl
    have v1 : evalE G (callK G T (k + 2)) (.bin .add (.var 1) (.int 1)) [some (.ref n), some (.int 8), some (.int 6), none, some (.int g), some (.int 0), some (.tup (intsD [])), none] S1 = some (.ok (.int 9) S1) := nr rfl
    simp only [evalI_rng, evalEs_cons, evalEs_nil, evalE_call, v0, v1, bnd_okS, ok_def, b1, hr]
    rfl
  · have : 6 * g * (0 + m) ≤ 6 * g * 8 := Nat.mul_le_mul_left _ (by omega)
    omega
end K02
end
section
set_option linter.all false
set_option maxRecDepth 100000
set_option maxHeartbeats 2000000
set_option exponentiation.threshold 5000
set_option autoImplicit false
namespace K02
open KL
theorem ne_fr (p : Rat) (S : Store) : cmpD .ne (frD p) (frD p) S = some false := by
  have e : cmpD .ne (frD p) (frD p) S = (match cmpD .eq (frD p) (frD p) S with
    | some b => some (!b)
    | none => none) := rfl
  rw [e, eq_fr]; simp
theorem ne_ph {ph : D} (h : ph = .non ∨ ∃ i : Nat, ph = .int i) (S : Store) : cmpD .ne ph ph S = some false := by
  rcases h with rfl | ⟨i, rfl⟩
  · exact nr rfl
  · simp
def ck1 : List MS := [
          .asg (.name 11) (.call i_law_at [.var 6, .var 8, .var 10]), 
          .ifS (.or [.v (.cmp .ne (.call i_level_at [.var 6, .var 8, .var 10]) (.idx (.var 11) (.str [108, 101, 118, 101, 108]))), .v (.cmp .ne (.call i_phase_at [.var 6, .var 8, .var 10]) (.idx (.var 11) (.str [112, 104, 97, 115, 101])))]) [
            .ret (.bl false)] []]
def ck2 : List MS := [
          .ifS (.v (.cmp .ne (.call i_level_at [.var 6, .var 8, .var 10]) (.idx (.call i_law_at [.var 6, .var 8, .var 10]) (.str [108, 101, 118, 101, 108])))) [
            .ret (.bl false)] []]
theorem lgt1000 {g : Nat} (h : g ≤ 1000) : lgt g 20 := lgt_le (m := 1000) (lgt_mono (a := 10) (by unfold lgt; decide) (by decide)) h
theorem ck1_loop (k : Nat) {d : D} (hd : EnvR d) {g : Nat} (hg : 0 < g) (hg2 : g ≤ 1000) {al : List Nat} (hpw : al.Pairwise (· ≤ ·)) (hl : al.length ≤ 8) (S : Store) (a0 a1 a2 a3 a4 a5 a7 a9 : Option D) : ∀ (ms : List Nat) (x10 x11 : Option D), (∀ m ∈ ms, m ≤ 60 * g) →
    ∃ y10 y11, loopF (fun d ρ S => asgT G (callK G T (k + 8)) (.name 10) d ρ S) (fun ρ S => execs G (callK G T (k + 8)) ck1 ρ S) (intsD ms) [a0, a1, a2, a3, a4, a5, some d, a7, some (rowD g al), a9, x10, x11] S = some (.nx [a0, a1, a2, a3, a4, a5, some d, a7, some (rowD g al), a9, y10, y11] S)
  | [], x10, x11, h => ⟨x10, x11, rfl⟩
  | m :: ms, x10, x11, h => by
    obtain ⟨pr, re, ps, rfl, gr, hpr, hre⟩ := hd
    have hm := h m (by simp)
    obtain ⟨w, ph, lv, t1, t2, t3, t4, t5, t6⟩ := tell_ok k gr hg (lgt1000 hg2) hpr hre (mo := m) (by omega) (by omega) hpw (by omega)
    obtain ⟨y10, y11, ih⟩ := ck1_loop k ⟨pr, re, ps, rfl, gr, hpr, hre⟩ hg hg2 hpw hl S a0 a1 a2 a3 a4 a5 a7 a9 ms (some (.int m)) (some w) (fun m hm => h m (by simp [hm]))
    refine ⟨y10, y11, ?_⟩
    have e : intsD (m :: ms) = .int m :: intsD ms := rfl
    rw [e]
    refine loopF_more (ρ1 := [a0, a1, a2, a3, a4, a5, some (envD pr re ps), a7, some (rowD g al), a9, some (.int m), x11]) (S1 := S) (by simp) ?_ ih
    have n1 := ne_fr lv
    have n2 := ne_ph t3
    refine ex_nx (ρ' := [a0, a1, a2, a3, a4, a5, some (envD pr re ps), a7, some (rowD g al), a9, some (.int m), some w]) (S' := S) (by simp [t4]) (ex_else (S1 := S) (by simp [t5, t6, t1, t2, n1, n2]) execs_nil)
theorem ck2_loop (k : Nat) {d : D} (hd : EnvR d) {g : Nat} (hg : 0 < g) (hg2 : g ≤ 1000) {al : List Nat} (hpw : al.Pairwise (· ≤ ·)) (hl : al.length ≤ 8) (S : Store) (a0 a1 a2 a3 a4 a5 a7 a9 a11 : Option D) : ∀ (ms : List Nat) (x10 : Option D), (∀ m ∈ ms, m ≤ 60 * g) →
    ∃ y10, loopF (fun d ρ S => asgT G (callK G T (k + 8)) (.name 10) d ρ S) (fun ρ S => execs G (callK G T (k + 8)) ck2 ρ S) (intsD ms) [a0, a1, a2, a3, a4, a5, some d, a7, some (rowD g al), a9, x10, a11] S = some (.nx [a0, a1, a2, a3, a4, a5, some d, a7, some (rowD g al), a9, y10, a11] S)
  | [], x10, h => ⟨x10, rfl⟩
  | m :: ms, x10, h => by
    obtain ⟨pr, re, ps, rfl, gr, hpr, hre⟩ := hd
    have hm := h m (by simp)
    obtain ⟨w, ph, lv, t1, t2, t3, t4, t5, t6⟩ := tell_ok k gr hg (lgt1000 hg2) hpr hre (mo := m) (by omega) (by omega) hpw (by omega)
    obtain ⟨y10, ih⟩ := ck2_loop k ⟨pr, re, ps, rfl, gr, hpr, hre⟩ hg hg2 hpw hl S a0 a1 a2 a3 a4 a5 a7 a9 a11 ms (some (.int m)) (fun m hm => h m (by simp [hm]))
    refine ⟨y10, ?_⟩
    have e : intsD (m :: ms) = .int m :: intsD ms := rfl
    rw [e]
    refine loopF_more (ρ1 := [a0, a1, a2, a3, a4, a5, some (envD pr re ps), a7, some (rowD g al), a9, some (.int m), a11]) (S1 := S) (by simp) ?_ ih
    have n1 := ne_fr lv
    exact ex_else (S1 := S) (by simp [t5, t4, t2, n1]) execs_nil
def eE : ME := .bin .add (.ife (.v (.cmp .ne (.idx (.var 8) (.int 1)) (.tup []))) (.idx (.idx (.var 8) (.int 1)) (.neg (.int 1))) (.int 0)) (.bin .mul (.int 12) (.idx (.var 8) (.int 0)))
theorem end_ev {C : CallF} {ρ : Env} {S : Store} {g mo : Nat} {al : List Nat} (h8 : ρ[8]? = some (some (rowD g al))) (hr : RowR g al mo) : ∃ e : Nat, e ≤ mo + 12 * g ∧ evalE G C eE ρ S = some (.ok (.int e) S) := by
  have v8 : evalE G C (.var 8) ρ S = some (.ok (rowD g al) S) := by rw [evalE_var, h8]; rfl
  have mk : ∀ S, binD .mul (.int 12) (.int (g : Int)) S = some (.int (12 * g)) := fun S => bin_mulI _ _ (mulOk_left (by omega))
  cases al with
  | nil =>
    refine ⟨12 * g, by omega, ?_⟩
    have ne : cmpD .ne (.tup (intsD [])) (.tup []) S = some false := nr rfl
    have q : (0 : Int) + 12 * (g : Int) = ((12 * g : Nat) : Int) := by omega
    have h1 : evalE G C (.idx (.var 8) (.int 1)) ρ S = some (.ok (.tup (intsD [])) S) := by
      simp only [evalE_idx, v8, bnd_okS, evalE_int, idx_row1, lift_some, ok_def]
    have h0 : evalE G C (.idx (.var 8) (.int 0)) ρ S = some (.ok (.int g) S) := by
      simp only [evalE_idx, v8, bnd_okS, evalE_int, idx_row0, lift_some, ok_def]
    have h2 : evalE G C (.ife (.v (.cmp .ne (.idx (.var 8) (.int 1)) (.tup []))) (.idx (.idx (.var 8) (.int 1)) (.neg (.int 1))) (.int 0)) ρ S = some (.ok (.int 0) S) := by
      have ht : evalT G C (.v (.cmp .ne (.idx (.var 8) (.int 1)) (.tup []))) ρ S = some (.ok false S) := by
        simp only [evalT_v, evalE_cmp, h1, bnd_okS, evalE_tup, evalEs_nil, ok_def, ne, truD_bl, lift_some]
      rw [evalE_ife, ht]; rfl
    unfold eE
    rw [bin_ev h2 (bin_ev (show evalE G C (.int 12) ρ S = some (.ok (.int 12) S) from nr rfl) h0 (mk S)) (bin_addI _ _), q]
  | cons a al =>
    refine ⟨mo + 12 * g, by omega, ?_⟩
    have ne : cmpD .ne (.tup (intsD (a :: al))) (.tup []) S = some true := nr rfl
    have hlast : (a :: al).getLast? = some mo := by
      rcases hr.last with h | h
      · cases h
      · exact h
    have il : idxD (.tup (intsD (a :: al))) (.int (-1)) S = some (.int mo) := by
      show (match ixOf (intsD (a :: al)).length (-1) with
        | some j => (intsD (a :: al))[j]?
        | none => none) = _
      have e : ixOf (intsD (a :: al)).length (-1) = some al.length := by
        rw [len_ints]
        unfold ixOf
        rw [if_neg (by omega), if_pos (by simp; omega)]
        congr 1
        simp; omega
      rw [e]
      unfold intsD
      rw [List.getLast?_eq_getElem?] at hlast
      simp only [List.length_cons, Nat.add_sub_cancel] at hlast
      show (List.map (fun (p : Nat) => D.int (p : Int)) (a :: al))[al.length]? = some (.int mo)
      rw [List.getElem?_map, hlast]; rfl
    have q : (mo : Int) + 12 * (g : Int) = ((mo + 12 * g : Nat) : Int) := by omega
    have h1 : evalE G C (.idx (.var 8) (.int 1)) ρ S = some (.ok (.tup (intsD (a :: al))) S) := by
      simp only [evalE_idx, v8, bnd_okS, evalE_int, idx_row1, lift_some, ok_def]
    have h0 : evalE G C (.idx (.var 8) (.int 0)) ρ S = some (.ok (.int g) S) := by
      simp only [evalE_idx, v8, bnd_okS, evalE_int, idx_row0, lift_some, ok_def]
    have h2 : evalE G C (.ife (.v (.cmp .ne (.idx (.var 8) (.int 1)) (.tup []))) (.idx (.idx (.var 8) (.int 1)) (.neg (.int 1))) (.int 0)) ρ S = some (.ok (.int mo) S) := by
      have ht : evalT G C (.v (.cmp .ne (.idx (.var 8) (.int 1)) (.tup []))) ρ S = some (.ok true S) := by
        simp only [evalT_v, evalE_cmp, h1, bnd_okS, evalE_tup, evalEs_nil, ok_def, ne, truD_bl, lift_some]
      have hn : evalE G C (.neg (.int 1)) ρ S = some (.ok (.int (-1)) S) := nr rfl
      rw [evalE_ife, ht, bnd_okS, if_pos rfl, evalE_idx, h1, bnd_okS, hn, bnd_okS, il]; rfl
    unfold eE
    rw [bin_ev h2 (bin_ev (show evalE G C (.int 12) ρ S = some (.ok (.int 12) S) from nr rfl) h0 (mk S)) (bin_addI _ _), q]
theorem cut_3 (al : List Nat) (S : Store) : cutD (.tup (intsD al)) none (some 3) S = some (.tup (intsD (al.take 3))) := by
  have e : cutD (.tup (intsD al)) none (some 3) S = some (.tup (((intsD al).drop 0).take (cutIx (intsD al).length (intsD al).length (some 3) - 0))) := rfl
  have e2 : cutIx (intsD al).length (intsD al).length (some 3) = min 3 al.length := by
    unfold cutIx; dsimp only; rw [if_neg (by omega), len_ints]; rfl
  rw [e, e2, Nat.sub_zero, List.drop_zero]
  unfold intsD
  rw [← List.map_take]
  congr 3
  by_cases h : 3 ≤ al.length
  · rw [Nat.min_eq_left h]
  · rw [List.take_of_length_le (by omega), List.take_of_length_le (by omega)]
def agb : List MS := [
        .asg (.name 8) (.call i_law_row [.var 4, .int 8, .int 6]), 
        .asg (.name 9) eE, 
        .forS (.name 10) (.it (.lst [.call i_law_draw [.var 4, .bin .add (.var 9) (.int 1)], .call i_law_draw [.var 4, .bin .add (.var 9) (.int 1)], .var 9])) ck1,
        .forS (.name 10) (.it (.slc (.idx (.var 8) (.int 1)) none (some (.int 3)))) ck2]
theorem again_loop (k : Nat) {d : D} (hd : EnvR d) {n : Nat} (a0 a1 a2 a3 a5 : Option D) : ∀ (m c : Nat) {S : Store} (x7 x8 x9 x10 x11 : Option D), Src S n →
    ∃ (S' : Store) (y7 y8 y9 y10 y11 : Option D), Src S' n ∧ loopF (fun d ρ S => asgT G (callK G T (k + 8)) (.name 7) d ρ S) (fun ρ S => execs G (callK G T (k + 8)) agb ρ S) (rangeL c 1 m) [a0, a1, a2, a3, some (.ref n), a5, some d, x7, x8, x9, x10, x11] S = some (.nx [a0, a1, a2, a3, some (.ref n), a5, some d, y7, y8, y9, y10, y11] S')
  | 0, c, S, x7, x8, x9, x10, x11, hs => ⟨S, x7, x8, x9, x10, x11, hs, rfl⟩
  | m + 1, c, S, x7, x8, x9, x10, x11, hs => by
    obtain ⟨g, mo, al, S1, r1, r2, r3, r4, r5, r6, r7⟩ := row_ok (k + 5) hs
    obtain ⟨e, e1, e2⟩ := end_ev (C := callK G T (k + 8)) (ρ := [a0, a1, a2, a3, some (.ref n), a5, some d, some (.int c), some (rowD g al), x9, x10, x11]) (S := S1) rfl r4
    obtain ⟨u, S2, b1, b2, b3, b4⟩ := drw (k + 7) r7 (e + 1) (by omega) (by omega)
    obtain ⟨v, S3, c1, c2, c3, c4⟩ := drw (k + 7) b3 (e + 1) (by omega) (by omega)
    obtain ⟨z10, z11, l1⟩ := ck1_loop k hd r2 r3 r4.pw r6 S3 a0 a1 a2 a3 (some (.ref n)) a5 (some (.int c)) (some (.int e)) [u, v, e] x10 x11 (by intro m hm; simp at hm; rcases hm with rfl | rfl | rfl <;> omega)
    obtain ⟨w10, l2⟩ := ck2_loop k hd r2 r3 r4.pw r6 S3 a0 a1 a2 a3 (some (.ref n)) a5 (some (.int c)) (some (.int e)) z11 (al.take 3) z10 (by intro m hm; have := r4.le m (List.mem_of_mem_take hm); omega)
    obtain ⟨S', y7, y8, y9, y10, y11, i1, i2⟩ := again_loop k hd a0 a1 a2 a3 a5 m (c + 1) (some (.int c)) (some (rowD g al)) (some (.int e)) w10 z11 c3
    refine ⟨S', y7, y8, y9, y10, y11, i1, ?_⟩
    have er : rangeL (c : Int) 1 (m + 1) = .int c :: rangeL ((c + 1 : Nat) : Int) 1 m := rfl
    rw [er]
    refine loopF_more (ρ1 := [a0, a1, a2, a3, some (.ref n), a5, some d, some (.int c), x8, x9, x10, x11]) (S1 := S) (by simp) ?_ i2
    have t1 : exec G (callK G T (k + 8)) (.asg (.name 8) (.call i_law_row [.var 4, .int 8, .int 6])) [a0, a1, a2, a3, some (.ref n), a5, some d, some (.int c), x8, x9, x10, x11] S = some (.nx [a0, a1, a2, a3, some (.ref n), a5, some d, some (.int c), some (rowD g al), x9, x10, x11] S1) := by
      simp [r1]
    have q : ((e + 1 : Nat) : Int) = (e : Int) + 1 := by omega
    rw [q] at b1 c1
    refine ex_nx t1 (ex_nx (asg_ev e2) (ex_nx (exec_forV (xs := intsD [u, v, e]) (S1 := S3) ?_ l1) (ex_nx (exec_forV (xs := intsD (al.take 3)) (S1 := S3) ?_ l2) execs_nil)))
    · have v4 : ∀ S, evalE G (callK G T (k + 8)) (.var 4) [a0, a1, a2, a3, some (.ref n), a5, some d, some (.int c), some (rowD g al), some (.int e), x10, x11] S = some (.ok (.ref n) S) := fun _ => nr rfl
      have v9 : ∀ S, evalE G (callK G T (k + 8)) (.var 9) [a0, a1, a2, a3, some (.ref n), a5, some d, some (.int c), some (rowD g al), some (.int e), x10, x11] S = some (.ok (.int e) S) := fun _ => nr rfl
      have ei : [D.int u, D.int v, D.int e] = intsD [u, v, e] := rfl
      show evalI G (callK G T (k + 8)) _ [a0, a1, a2, a3, some (.ref n), a5, some d, some (.int c), some (rowD g al), some (.int e), x10, x11] S1 = _
      simp only [evalI_it, evalE_lst, evalEs_cons, evalEs_nil, evalE_call, v4, v9, bnd_okS, ok_def, evalE_bin, evalE_int, bin_addI, lift_some, b1, c1]
      rfl
    · show evalI G (callK G T (k + 8)) _ [a0, a1, a2, a3, some (.ref n), a5, some d, some (.int c), some (rowD g al), some (.int e), z10, z11] S3 = _
      have v8 : evalE G (callK G T (k + 8)) (.var 8) [a0, a1, a2, a3, some (.ref n), a5, some d, some (.int c), some (rowD g al), some (.int e), z10, z11] S3 = some (.ok (rowD g al) S3) := nr rfl
      simp only [evalI_it, evalE_slc, evalE_idx, v8, bnd_okS, ok_def, evalE_int, idx_row1, lift_some, evalO_none, evalO_some, cut_3, walk_tup]
theorem rng_ev {C : CallF} (n : Nat) (h : n < 1000) (ρ : Env) (S : Store) : evalI G C (.rng [.int (n : Int)]) ρ S = some (.ok (rangeL ((0 : Nat) : Int) 1 n) S) := by
  have hr := rng1 n h
  simp only [evalI_rng, evalEs_cons, evalEs_nil, evalE_int, bnd_okS, ok_def, hr]
  rfl
def tnb : List MS := [
      .asg (.name 6) (.call i_law_envelope [.var 4]), 
      .forS (.name 7) (.rng [.int 4]) agb]
theorem turn_loop (k : Nat) {n : Nat} (a0 a1 a2 a3 : Option D) : ∀ (m c : Nat) {S : Store} (x5 x6 x7 x8 x9 x10 x11 : Option D), Src S n →
    ∃ (S' : Store) (y5 y6 y7 y8 y9 y10 y11 : Option D), Src S' n ∧ loopF (fun d ρ S => asgT G (callK G T (k + 8)) (.name 5) d ρ S) (fun ρ S => execs G (callK G T (k + 8)) tnb ρ S) (rangeL c 1 m) [a0, a1, a2, a3, some (.ref n), x5, x6, x7, x8, x9, x10, x11] S = some (.nx [a0, a1, a2, a3, some (.ref n), y5, y6, y7, y8, y9, y10, y11] S')
  | 0, c, S, x5, x6, x7, x8, x9, x10, x11, hs => ⟨S, x5, x6, x7, x8, x9, x10, x11, hs, rfl⟩
  | m + 1, c, S, x5, x6, x7, x8, x9, x10, x11, hs => by
    obtain ⟨d, S1, r1, r2, r3⟩ := envelope_ok (k + 3) hs
    obtain ⟨S2, z7, z8, z9, z10, z11, l1, l2⟩ := again_loop k r2 a0 a1 a2 a3 (some (.int c)) 4 0 x7 x8 x9 x10 x11 r3
    obtain ⟨S', y5, y6, y7, y8, y9, y10, y11, i1, i2⟩ := turn_loop k a0 a1 a2 a3 m (c + 1) (some (.int c)) (some d) z7 z8 z9 z10 z11 l1
    refine ⟨S', y5, y6, y7, y8, y9, y10, y11, i1, ?_⟩
    have er : rangeL (c : Int) 1 (m + 1) = .int c :: rangeL ((c + 1 : Nat) : Int) 1 m := rfl
    rw [er]
    refine loopF_more (ρ1 := [a0, a1, a2, a3, some (.ref n), some (.int c), x6, x7, x8, x9, x10, x11]) (S1 := S) (by simp) ?_ i2
    have t1 : exec G (callK G T (k + 8)) (.asg (.name 6) (.call i_law_envelope [.var 4])) [a0, a1, a2, a3, some (.ref n), some (.int c), x6, x7, x8, x9, x10, x11] S = some (.nx [a0, a1, a2, a3, some (.ref n), some (.int c), some d, x7, x8, x9, x10, x11] S1) := by
      simp [r1]
    have hr4 : evalI G (callK G T (k + 8)) (.rng [.int 4]) [a0, a1, a2, a3, some (.ref n), some (.int c), some d, x7, x8, x9, x10, x11] S1 = some (.ok (rangeL ((0 : Nat) : Int) 1 4) S1) := rng_ev 4 (by omega) _ _
    have t2 := exec_forV (t := .name 7) (b := agb) hr4 l2
    exact ex_nx t1 (ex_nx t2 execs_nil)
def kb : List MS := [
    .asg (.name 4) (.call i_law_source [.var 0, .var 1]), 
    .forS (.name 5) (.rng [.int 3]) tnb]
theorem k_loop (k : Nat) (ns : List Int) (a2 a3 : Option D) : ∀ (m c : Nat) {S : Store} (x1 x4 x5 x6 x7 x8 x9 x10 x11 : Option D),
    ∃ (S' : Store) (y1 y4 y5 y6 y7 y8 y9 y10 y11 : Option D), loopF (fun d ρ S => asgT G (callK G T (k + 8)) (.name 1) d ρ S) (fun ρ S => execs G (callK G T (k + 8)) kb ρ S) (rangeL c 1 m) [some (.scr ns), x1, a2, a3, x4, x5, x6, x7, x8, x9, x10, x11] S = some (.nx [some (.scr ns), y1, a2, a3, y4, y5, y6, y7, y8, y9, y10, y11] S')
  | 0, c, S, x1, x4, x5, x6, x7, x8, x9, x10, x11 => ⟨S, x1, x4, x5, x6, x7, x8, x9, x10, x11, rfl⟩
  | m + 1, c, S, x1, x4, x5, x6, x7, x8, x9, x10, x11 => by
    obtain ⟨a, b, h1, h2, h3, h4⟩ := source_ok (k + 7) S ns c
    have hs : Src (S ++ [.lst [.int a, .int b]]) S.length := ⟨a, b, by simp, h1, h2, h3⟩
    obtain ⟨S2, z5, z6, z7, z8, z9, z10, z11, l1, l2⟩ := turn_loop k (some (.scr ns)) (some (.int c)) a2 a3 3 0 x5 x6 x7 x8 x9 x10 x11 hs
    obtain ⟨S', y1, y4, y5, y6, y7, y8, y9, y10, y11, i2⟩ := k_loop k ns a2 a3 m (c + 1) (S := S2) (some (.int c)) (some (.ref S.length)) z5 z6 z7 z8 z9 z10 z11
    refine ⟨S', y1, y4, y5, y6, y7, y8, y9, y10, y11, ?_⟩
    have er : rangeL (c : Int) 1 (m + 1) = .int c :: rangeL ((c + 1 : Nat) : Int) 1 m := rfl
    rw [er]
    refine loopF_more (ρ1 := [some (.scr ns), some (.int c), a2, a3, x4, x5, x6, x7, x8, x9, x10, x11]) (S1 := S) (by simp) ?_ i2
    have t1 : exec G (callK G T (k + 8)) (.asg (.name 4) (.call i_law_source [.var 0, .var 1])) [some (.scr ns), some (.int c), a2, a3, x4, x5, x6, x7, x8, x9, x10, x11] S = some (.nx [some (.scr ns), some (.int c), a2, a3, some (.ref S.length), x5, x6, x7, x8, x9, x10, x11] (S ++ [.lst [.int a, .int b]])) := by
      simp [h4]
    have hr3 : evalI G (callK G T (k + 8)) (.rng [.int 3]) [some (.scr ns), some (.int c), a2, a3, some (.ref S.length), x5, x6, x7, x8, x9, x10, x11] (S ++ [.lst [.int a, .int b]]) = some (.ok (rangeL ((0 : Nat) : Int) 1 3) (S ++ [.lst [.int a, .int b]])) := rng_ev 3 (by omega) _ _
    have t2 := exec_forV (t := .name 5) (b := tnb) hr3 l2
    exact ex_nx t1 (ex_nx t2 execs_nil)
def waveE : ME := .tup [.int 0, .int 2, .tup [.tup [.str [103, 111], .int 9, .int 3, .int 1], .tup [.str [103, 111], .int 3, .int 3, .int 0], .tup [.str [104, 111, 108, 100], .int 2, .int 3], .tup [.str [103, 111], .int 0, .int 3, .int 4], .tup [.str [115, 116, 97, 121]]]]
def thirdE : ME := .tup [.int 0, .int 1, .tup [.tup [.str [103, 111], .int 10, .int 3, .int 2], .tup [.str [103, 111], .int 0, .int 6, .int 2], .tup [.str [115, 116, 97, 121]]]]
def isTrue (r : Option SR) : Bool := match r with
  | some (.ret (.bl b) _) => b
  | _ => false
def tailB : List MS := [.asg (.name 2) waveE,
  .ifS (.or [.v (.cmp .ne (.call i_level_at [.var 2, .tup [.int 1, .tup [.int 0]], .bin .pow (.int 10) (.int 30)]) (.tup [.int 6, .int 1])), .v (.cmp .ne (.call i_level_at [.var 2, .tup [.int 1, .tup [.int 0]], .bin .sub (.bin .pow (.int 10) (.int 30)) (.int 1)]) (.tup [.int 9, .int 1]))]) [
    .ret (.bl false)] [], 
  .asg (.name 3) thirdE,
  .ifS (.v (.cmp .ne (.call i_level_at [.var 3, .tup [.int 7, .tup [.int 0, .int 10, .int 11]], .int 12]) (.tup [.int 27, .int 7]))) [
    .ret (.bl false)] [], 
  .ret (.andE [.cmp .eq (.call i_level_at [.var 3, .tup [.int 7, .tup [.int 0, .int 10, .int 11]], .bin .pow (.int 10) (.int 30)]) (.tup [.int 10, .int 1]), .cmp .eq (.call i_phase_at [.var 3, .tup [.int 7, .tup [.int 0, .int 10, .int 11]], .int 10]) (.int 1)])]
theorem law_body : m_law.body = .forS (.name 1) (.rng [.bin .add (.int 1) (.callB .min2 [.callB .len [.var 0], .int 10])]) kb :: tailB := nr rfl
end K02
end
section
set_option linter.all false
set_option maxRecDepth 100000
set_option maxHeartbeats 2000000
set_option exponentiation.threshold 5000
set_option autoImplicit false
namespace K02
open KL
theorem callK_eq {k f : Nat} {d : MDef} {args : List D} {S : Store} (hT : T f = some d) : callK G T (k + 1) f args S = callD G (callK G T k) d args S := by
  show (match T f with
    | some d => callD G (callK G T k) d args S
    | none => none) = _
  rw [hT]
theorem pure_any {k f : Nat} {d : MDef} {args : List D} {r : D} {S0 S1 : Store} (hT : T f = some d) (hp : d.pur = true) (h : callK G T (k + 1) f args S0 = some (.ok r S1)) (S : Store) : callK G T (k + 1) f args S = some (.ok r S) := by
  rw [callK_eq hT] at h ⊢
  unfold callD at h ⊢
  rw [hp] at h ⊢
  by_cases h1 : args.length = d.np
  · rw [if_pos h1, if_pos rfl] at h ⊢
    by_cases h2 : pureDs args = true
    · rw [if_pos h2] at h ⊢
      cases hr : runBody G (callK G T k) d args [] with
      | none => rw [hr] at h; cases h
      | some q =>
        rw [hr] at h
        cases q with
        | exc c p S' => cases h
        | ok r' S' =>
          dsimp only at h ⊢
          by_cases h3 : pureD r' = true
          · rw [if_pos h3] at h ⊢; cases h; rfl
          · rw [if_neg h3] at h; cases h
    · rw [if_neg h2] at h; cases h
  · rw [if_neg h1] at h; cases h
def isFr (r : Out D) (a b : Int) : Bool := match r with
  | some (.ok (.tup [.int x, .int y]) _) => x == a && y == b
  | _ => false
theorem isFr_ok {r : Out D} {a b : Int} (h : isFr r a b = true) : ∃ S, r = some (.ok (.tup [.int a, .int b]) S) := by
  unfold isFr at h
  split at h
  · next x y S =>
    simp at h
    obtain ⟨h1, h2⟩ := h
    subst h1; subst h2
    exact ⟨S, rfl⟩
  · cases h
def isI (r : Out D) (a : Int) : Bool := match r with
  | some (.ok (.int x) _) => x == a
  | _ => false
theorem isI_ok {r : Out D} {a : Int} (h : isI r a = true) : ∃ S, r = some (.ok (.int a) S) := by
  unfold isI at h
  split at h
  · next x S =>
    simp at h
    subst h
    exact ⟨S, rfl⟩
  · cases h
def waveD : D := .tup [.int 0, .int 2, .tup [.tup [.str [103, 111], .int 9, .int 3, .int 1], .tup [.str [103, 111], .int 3, .int 3, .int 0], .tup [.str [104, 111, 108, 100], .int 2, .int 3], .tup [.str [103, 111], .int 0, .int 3, .int 4], .tup [.str [115, 116, 97, 121]]]]
def thirdD : D := .tup [.int 0, .int 1, .tup [.tup [.str [103, 111], .int 10, .int 3, .int 2], .tup [.str [103, 111], .int 0, .int 6, .int 2], .tup [.str [115, 116, 97, 121]]]]
def rowA : D := .tup [.int 1, .tup [.int 0]]
def rowB : D := .tup [.int 7, .tup [.int 0, .int 10, .int 11]]
theorem cl1 : isFr (callK G T 39 i_level_at [waveD, rowA, .int 1000000000000000000000000000000] []) 6 1 = true := by decide +kernel
theorem cl2 : isFr (callK G T 39 i_level_at [waveD, rowA, .int 999999999999999999999999999999] []) 9 1 = true := by decide +kernel
theorem cl3 : isFr (callK G T 39 i_level_at [thirdD, rowB, .int 12] []) 27 7 = true := by decide +kernel
theorem cl4 : isFr (callK G T 39 i_level_at [thirdD, rowB, .int 1000000000000000000000000000000] []) 10 1 = true := by decide +kernel
theorem cl5 : isI (callK G T 39 i_phase_at [thirdD, rowB, .int 10] []) 1 = true := by decide +kernel
theorem lvl {a b : Int} {args : List D} (h : isFr (callK G T 39 i_level_at args []) a b = true) (S : Store) : callK G T 39 i_level_at args S = some (.ok (.tup [.int a, .int b]) S) := by
  obtain ⟨S1, h1⟩ := isFr_ok h
  exact pure_any (d := m_level_at) rfl rfl h1 S
theorem phs {a : Int} {args : List D} (h : isI (callK G T 39 i_phase_at args []) a = true) (S : Store) : callK G T 39 i_phase_at args S = some (.ok (.int a) S) := by
  obtain ⟨S1, h1⟩ := isI_ok h
  exact pure_any (d := m_phase_at) rfl rfl h1 S
theorem pow30 (S : Store) : binD .pow (.int 10) (.int 30) S = some (.int 1000000000000000000000000000000) := nr rfl
theorem tail_ok (r x1 x4 x5 x6 x7 x8 x9 x10 x11 : Option D) (S : Store) : execs G (callK G T 39) tailB [r, x1, none, none, x4, x5, x6, x7, x8, x9, x10, x11] S = some (.ret (.bl true) S) := by
  have w : ∀ ρ S, evalE G (callK G T 39) waveE ρ S = some (.ok waveD S) := fun _ _ => nr rfl
  have t : ∀ ρ S, evalE G (callK G T 39) thirdE ρ S = some (.ok thirdD S) := fun _ _ => nr rfl
  have ra : ∀ ρ S, evalE G (callK G T 39) (.tup [.int 1, .tup [.int 0]]) ρ S = some (.ok rowA S) := fun _ _ => nr rfl
  have rb : ∀ ρ S, evalE G (callK G T 39) (.tup [.int 7, .tup [.int 0, .int 10, .int 11]]) ρ S = some (.ok rowB S) := fun _ _ => nr rfl
  have p0 : ∀ ρ S, evalE G (callK G T 39) (.bin .pow (.int 10) (.int 30)) ρ S = some (.ok (.int 1000000000000000000000000000000) S) := fun ρ S => by
    simp only [evalE_bin, evalE_int, bnd_okS, pow30, lift_some]
  have p1 : ∀ ρ S, evalE G (callK G T 39) (.bin .sub (.bin .pow (.int 10) (.int 30)) (.int 1)) ρ S = some (.ok (.int 999999999999999999999999999999) S) := fun ρ S => by
    rw [evalE_bin, p0, bnd_okS, evalE_int, bnd_okS, bin_subI]; rfl
  have ne : ∀ a b : Int, cmpD .ne (.tup [.int a, .int b]) (.tup [.int a, .int b]) S = some false := fun a b => by
    have e : cmpD .ne (.tup [.int a, .int b]) (.tup [.int a, .int b]) S = (match (match some (a == a), (match some (b == b), some true with
        | some a, some b => some (a && b)
        | _, _ => none) with
      | some a, some b => some (a && b)
      | _, _ => none) with
      | some b => some (!b)
      | none => none) := rfl
    rw [e]; simp
  have eq : ∀ a b : Int, cmpD .eq (.tup [.int a, .int b]) (.tup [.int a, .int b]) S = some true := fun a b => by
    have e : cmpD .eq (.tup [.int a, .int b]) (.tup [.int a, .int b]) S = (match some (a == a), (match some (b == b), some true with
        | some a, some b => some (a && b)
        | _, _ => none) with
      | some a, some b => some (a && b)
      | _, _ => none) := rfl
    rw [e]; simp
  have t2 : ∀ (a b : Int) ρ S, evalE G (callK G T 39) (.tup [.int a, .int b]) ρ S = some (.ok (.tup [.int a, .int b]) S) := fun _ _ _ _ => nr rfl
  have s1 : exec G (callK G T 39) (.asg (.name 2) waveE) [r, x1, none, none, x4, x5, x6, x7, x8, x9, x10, x11] S = some (.nx [r, x1, some waveD, none, x4, x5, x6, x7, x8, x9, x10, x11] S) := asg_ev (w _ _)
  have v2 : evalE G (callK G T 39) (.var 2) [r, x1, some waveD, none, x4, x5, x6, x7, x8, x9, x10, x11] S = some (.ok waveD S) := nr rfl
  have s3 : exec G (callK G T 39) (.asg (.name 3) thirdE) [r, x1, some waveD, none, x4, x5, x6, x7, x8, x9, x10, x11] S = some (.nx [r, x1, some waveD, some thirdD, x4, x5, x6, x7, x8, x9, x10, x11] S) := asg_ev (t _ _)
  have v3 : evalE G (callK G T 39) (.var 3) [r, x1, some waveD, some thirdD, x4, x5, x6, x7, x8, x9, x10, x11] S = some (.ok thirdD S) := nr rfl
  refine ex_nx s1 (ex_else (S1 := S) ?_ (ex_nx s3 (ex_else (S1 := S) ?_ (ret_ev ?_ []))))
  · simp only [evalT_or, evalTo_cons, evalTo_nil, evalT_v, evalE_cmp, evalE_call, evalEs_cons, evalEs_nil, v2, ra, p0, p1, bnd_okS, ok_def, lvl cl1, lvl cl2, t2, ne, truD_bl, lift_some]
    rfl
  · simp only [evalT_v, evalE_cmp, evalE_call, evalEs_cons, evalEs_nil, v3, rb, evalE_int, bnd_okS, ok_def, lvl cl3, t2, ne, truD_bl, lift_some]
  · simp only [evalE_and, evalAnd_cons, evalAnd_one, evalE_cmp, evalE_call, evalEs_cons, evalEs_nil, v3, rb, p0, evalE_int, bnd_okS, ok_def, lvl cl4, phs cl5, t2, eq, cmp_eqii]
    rfl
theorem law_ok (ns : List Int) : ∃ S', callK G T 40 i_law [.scr ns] [] = some (.ok (.bl true) S') := by
  obtain ⟨m, hm, hm2⟩ : ∃ m : Nat, m < 1000 ∧ (1 : Int) + (if (10 : Int) < (ns.length : Int) then 10 else (ns.length : Int)) = (m : Int) := by
    by_cases h : (10 : Int) < (ns.length : Int)
    · exact ⟨11, by omega, by rw [if_pos h]; rfl⟩
    · exact ⟨1 + ns.length, by omega, by rw [if_neg h]; omega⟩
  obtain ⟨S', y1, y4, y5, y6, y7, y8, y9, y10, y11, hl⟩ := k_loop 31 ns none none m 0 (S := []) none none none none none none none none none
  refine ⟨S', ?_⟩
  rw [call_imp (k := 39) (d := m_law) rfl rfl rfl]
  refine run_ret ?_
  show execs G (callK G T 39) m_law.body [some (.scr ns), none, none, none, none, none, none, none, none, none, none, none] [] = _
  rw [law_body]
  have hr := rng1 m hm
  have hi : evalI G (callK G T 39) (.rng [.bin .add (.int 1) (.callB .min2 [.callB .len [.var 0], .int 10])]) [some (.scr ns), none, none, none, none, none, none, none, none, none, none, none] [] = some (.ok (rangeL ((0 : Nat) : Int) 1 m) []) := by
    have v0 : evalE G (callK G T 39) (.var 0) [some (.scr ns), none, none, none, none, none, none, none, none, none, none, none] [] = some (.ok (.scr ns) []) := nr rfl
    simp only [evalI_rng, evalEs_cons, evalEs_nil, evalE_bin, evalE_int, bnd_okS, evalE_callB, v0, ok_def, bf_lenR, lift_some, bf_min2, bin_addI, hm2, hr]
    rfl
  exact ex_nx (exec_forV hi hl) (tail_ok ..)
end K02
end
section
set_option Elab.async false
set_option linter.all false
set_option maxRecDepth 100000
set_option maxHeartbeats 0
/-! the head of keyloud_k02_levels_at_moments, and its defs' promises (written by gen_law.py) -/
namespace K02
open PySem PySem.Spec PyProof.Rows L2 KL
def top (i : Nat) : Stmt := PySem.Challenge.pw_keyloud_k02_levels_at_moments.main.body.getD i (.Pass ⟨0, 0, 0, 0⟩)
def d_is_number : He.DefD := ⟨("is_number", none), "is_number", "is_number", defArgs (top 10), defBody (top 10), defScope (top 10), [], []⟩
def e_is_number : Ent := ⟨"is_number", top 10, ["value", "least", "most"], ["value", "least", "most"], m_is_number⟩
def d_is_good_phase : He.DefD := ⟨("is_good_phase", none), "is_good_phase", "is_good_phase", defArgs (top 11), defBody (top 11), defScope (top 11), [], []⟩
def e_is_good_phase : Ent := ⟨"is_good_phase", top 11, ["value", "many", "word", "rest"], ["value", "many"], m_is_good_phase⟩
def d_next_of : He.DefD := ⟨("next_of", none), "next_of", "next_of", defArgs (top 12), defBody (top 12), defScope (top 12), [], []⟩
def e_next_of : Ent := ⟨"next_of", top 12, ["phase"], ["phase"], m_next_of⟩
def d_ring_at : He.DefD := ⟨("ring_at", none), "ring_at", "ring_at", defArgs (top 13), defBody (top 13), defScope (top 13), [], []⟩
def e_ring_at : Ent := ⟨"ring_at", top 13, ["phases", "index", "turn", "found", "at"], ["phases", "index"], m_ring_at⟩
def d_is_moving : He.DefD := ⟨("is_moving", none), "is_moving", "is_moving", defArgs (top 14), defBody (top 14), defScope (top 14), [], []⟩
def e_is_moving : Ent := ⟨"is_moving", top 14, ["phases", "ring", "words", "pairs", "index", "one", "other"], ["phases", "ring"], m_is_moving⟩
def d_is_good : He.DefD := ⟨("is_good", none), "is_good", "is_good", defArgs (top 15), defBody (top 15), defScope (top 15), [], []⟩
def e_is_good : Ent := ⟨"is_good", top 15, ["value", "many", "rings", "index", "ring", "phase"], ["value"], m_is_good⟩
def d_is_good_row : He.DefD := ⟨("is_good_row", none), "is_good_row", "is_good_row", defArgs (top 16), defBody (top 16), defScope (top 16), [], []⟩
def e_is_good_row : Ent := ⟨"is_good_row", top 16, ["value", "part", "one", "other"], ["value"], m_is_good_row⟩
def d_need_envelope : He.DefD := ⟨("need_envelope", none), "need_envelope", "need_envelope", defArgs (top 17), defBody (top 17), defScope (top 17), [], []⟩
def e_need_envelope : Ent := ⟨"need_envelope", top 17, ["value"], ["value"], m_need_envelope⟩
def d_need_row : He.DefD := ⟨("need_row", none), "need_row", "need_row", defArgs (top 18), defBody (top 18), defScope (top 18), [], []⟩
def e_need_row : Ent := ⟨"need_row", top 18, ["value"], ["value"], m_need_row⟩
def d_need_number : He.DefD := ⟨("need_number", none), "need_number", "need_number", defArgs (top 19), defBody (top 19), defScope (top 19), [], []⟩
def e_need_number : Ent := ⟨"need_number", top 19, ["value", "most"], ["value", "most"], m_need_number⟩
def d_lowest : He.DefD := ⟨("lowest", none), "lowest", "lowest", defArgs (top 21), defBody (top 21), defScope (top 21), [], []⟩
def e_lowest : Ent := ⟨"lowest", top 21, ["number", "parts", "one", "other"], ["number", "parts"], m_lowest⟩
def d_plus : He.DefD := ⟨("plus", none), "plus", "plus", defArgs (top 22), defBody (top 22), defScope (top 22), [], []⟩
def e_plus : Ent := ⟨"plus", top 22, ["one", "other"], ["one", "other"], m_plus⟩
def d_times : He.DefD := ⟨("times", none), "times", "times", defArgs (top 23), defBody (top 23), defScope (top 23), [], []⟩
def e_times : Ent := ⟨"times", top 23, ["fraction", "number"], ["fraction", "number"], m_times⟩
def d_minus : He.DefD := ⟨("minus", none), "minus", "minus", defArgs (top 24), defBody (top 24), defScope (top 24), [], []⟩
def e_minus : Ent := ⟨"minus", top 24, ["one", "other"], ["one", "other"], m_minus⟩
def d_shared : He.DefD := ⟨("shared", none), "shared", "shared", defArgs (top 25), defBody (top 25), defScope (top 25), [], []⟩
def e_shared : Ent := ⟨"shared", top 25, ["fraction", "number"], ["fraction", "number"], m_shared⟩
def d_is_less : He.DefD := ⟨("is_less", none), "is_less", "is_less", defArgs (top 26), defBody (top 26), defScope (top 26), [], []⟩
def e_is_less : Ent := ⟨"is_less", top 26, ["one", "other"], ["one", "other"], m_is_less⟩
def d_whole : He.DefD := ⟨("whole", none), "whole", "whole", defArgs (top 27), defBody (top 27), defScope (top 27), [], []⟩
def e_whole : Ent := ⟨"whole", top 27, ["number"], ["number"], m_whole⟩
def d_apart : He.DefD := ⟨("apart", none), "apart", "apart", defArgs (top 28), defBody (top 28), defScope (top 28), [], []⟩
def e_apart : Ent := ⟨"apart", top 28, ["one", "other", "found"], ["one", "other"], m_apart⟩
def d_begun_phase : He.DefD := ⟨("begun_phase", none), "begun_phase", "begun_phase", defArgs (top 31), defBody (top 31), defScope (top 31), [], []⟩
def e_begun_phase : Ent := ⟨"begun_phase", top 31, ["phases", "moment", "index", "level", "left"], ["phases", "moment", "index", "level"], m_begun_phase⟩
def d_time_left : He.DefD := ⟨("time_left", none), "time_left", "time_left", defArgs (top 32), defBody (top 32), defScope (top 32), [], []⟩
def e_time_left : Ent := ⟨"time_left", top 32, ["phases", "state", "moment", "index", "level", "left"], ["phases", "state"], m_time_left⟩
def d_moved : He.DefD := ⟨("moved", none), "moved", "moved", defArgs (top 33), defBody (top 33), defScope (top 33), [], []⟩
def e_moved : Ent := ⟨"moved", top 33, ["phases", "state", "moment", "gone", "before", "index", "level", "left", "sign"], ["phases", "state", "moment"], m_moved⟩
def d_skipped : He.DefD := ⟨("skipped", none), "skipped", "skipped", defArgs (top 34), defBody (top 34), defScope (top 34), [], []⟩
def e_skipped : Ent := ⟨"skipped", top 34, ["seen", "state", "moment", "key", "ring", "rest", "many"], ["seen", "state", "moment"], m_skipped⟩
def d_state_at : He.DefD := ⟨("state_at", none), "state_at", "state_at", defArgs (top 35), defBody (top 35), defScope (top 35), [], []⟩
def e_state_at : Ent := ⟨"state_at", top 35, ["phases", "state", "moment", "seen", "jumped", "left", "level", "key"], ["phases", "state", "moment"], m_state_at⟩
def d_first_state : He.DefD := ⟨("first_state", none), "first_state", "first_state", defArgs (top 36), defBody (top 36), defScope (top 36), [], []⟩
def e_first_state : Ent := ⟨"first_state", top 36, [], [], m_first_state⟩
def d_state_in : He.DefD := ⟨("state_in", none), "state_in", "state_in", defArgs (top 37), defBody (top 37), defScope (top 37), [], []⟩
def e_state_in : Ent := ⟨"state_in", top 37, ["envelope", "row", "moment", "state", "press", "release", "phases", "index", "part", "now"], ["envelope", "row", "moment"], m_state_in⟩
def d_need_three : He.DefD := ⟨("need_three", none), "need_three", "need_three", defArgs (top 38), defBody (top 38), defScope (top 38), [], []⟩
def e_need_three : Ent := ⟨"need_three", top 38, ["envelope", "row", "moment"], ["envelope", "row", "moment"], m_need_three⟩
def d_level_at : He.DefD := ⟨("level_at", none), "level_at", "level_at", defArgs (top 39), defBody (top 39), defScope (top 39), [], []⟩
def e_level_at : Ent := ⟨"level_at", top 39, ["envelope", "row", "moment"], ["envelope", "row", "moment"], m_level_at⟩
def d_phase_at : He.DefD := ⟨("phase_at", none), "phase_at", "phase_at", defArgs (top 40), defBody (top 40), defScope (top 40), [], []⟩
def e_phase_at : Ent := ⟨"phase_at", top 40, ["envelope", "row", "moment"], ["envelope", "row", "moment"], m_phase_at⟩
def d_law_source : He.DefD := ⟨("_law_source", none), "_law_source", "_law_source", defArgs (top 42), defBody (top 42), defScope (top 42), [], []⟩
def e_law_source : Ent := ⟨"_law_source", top 42, ["_law_script", "_law_k", "_law_cell"], ["_law_script", "_law_k"], m_law_source⟩
def d_law_draw : He.DefD := ⟨("_law_draw", none), "_law_draw", "_law_draw", defArgs (top 43), defBody (top 43), defScope (top 43), [], []⟩
def e_law_draw : Ent := ⟨"_law_draw", top 43, ["_law_source_here", "_law_many", "_law_found"], ["_law_source_here", "_law_many"], m_law_draw⟩
def d_law_of : He.DefD := ⟨("_law_of", none), "_law_of", "_law_of", defArgs (top 44), defBody (top 44), defScope (top 44), [], []⟩
def e_law_of : Ent := ⟨"_law_of", top 44, ["_law_source_here", "_law_items"], ["_law_source_here", "_law_items"], m_law_of⟩
def d_law_phase : He.DefD := ⟨("_law_phase", none), "_law_phase", "_law_phase", defArgs (top 45), defBody (top 45), defScope (top 45), [], []⟩
def e_law_phase : Ent := ⟨"_law_phase", top 45, ["_law_source_here", "_law_many", "_law_way", "_law_later", "_law_goal"], ["_law_source_here", "_law_many"], m_law_phase⟩
def d_law_ring : He.DefD := ⟨("_law_ring", none), "_law_ring", "_law_ring", defArgs (top 46), defBody (top 46), defScope (top 46), [], []⟩
def e_law_ring : Ent := ⟨"_law_ring", top 46, ["_law_phases", "_law_index", "_law_line"], ["_law_phases", "_law_index"], m_law_ring⟩
def d_law_is_moving : He.DefD := ⟨("_law_is_moving", none), "_law_is_moving", "_law_is_moving", defArgs (top 47), defBody (top 47), defScope (top 47), [], []⟩
def e_law_is_moving : Ent := ⟨"_law_is_moving", top 47, ["_law_phases", "_law_ring_here", "_law_at_here", "_law_phase_here", "_law_ahead"], ["_law_phases", "_law_ring_here"], m_law_is_moving⟩
def d_law_is_good : He.DefD := ⟨("_law_is_good", none), "_law_is_good", "_law_is_good", defArgs (top 48), defBody (top 48), defScope (top 48), [], []⟩
def e_law_is_good : Ent := ⟨"_law_is_good", top 48, ["_law_envelope_here", "_law_index", "_law_ring_here"], ["_law_envelope_here"], m_law_is_good⟩
def d_law_known : He.DefD := ⟨("_law_known", none), "_law_known", "_law_known", defArgs (top 49), defBody (top 49), defScope (top 49), [], []⟩
def e_law_known : Ent := ⟨"_law_known", top 49, ["_law_source_here", "_law_out", "_law_some", "_law_top", "_law_low_here", "_law_up", "_law_down", "_law_rise", "_law_hold"], ["_law_source_here"], m_law_known⟩
def d_law_bent : He.DefD := ⟨("_law_bent", none), "_law_bent", "_law_bent", defArgs (top 50), defBody (top 50), defScope (top 50), [], []⟩
def e_law_bent : Ent := ⟨"_law_bent", top 50, ["_law_source_here", "_law_envelope_here", "_law_other", "_law_found", "_law_press", "_law_release", "_law_phases", "_law_at_here", "_law_way", "_law_later"], ["_law_source_here", "_law_envelope_here"], m_law_bent⟩
def d_law_any : He.DefD := ⟨("_law_any", none), "_law_any", "_law_any", defArgs (top 51), defBody (top 51), defScope (top 51), [], []⟩
def e_law_any : Ent := ⟨"_law_any", top 51, ["_law_source_here", "_law_many", "_law_phases", "_law_found", "_law_turn"], ["_law_source_here"], m_law_any⟩
def d_law_envelope : He.DefD := ⟨("_law_envelope", none), "_law_envelope", "_law_envelope", defArgs (top 52), defBody (top 52), defScope (top 52), [], []⟩
def e_law_envelope : Ent := ⟨"_law_envelope", top 52, ["_law_source_here", "_law_way", "_law_found", "_law_turn"], ["_law_source_here"], m_law_envelope⟩
def d_law_row : He.DefD := ⟨("_law_row", none), "_law_row", "_law_row", defArgs (top 53), defBody (top 53), defScope (top 53), [], []⟩
def e_law_row : Ent := ⟨"_law_row", top 53, ["_law_source_here", "_law_most", "_law_wide", "_law_turn", "_law_grid", "_law_moment", "_law_found", "_law_more"], ["_law_source_here", "_law_most", "_law_wide"], m_law_row⟩
def d_law_low : He.DefD := ⟨("_law_low", none), "_law_low", "_law_low", defArgs (top 54), defBody (top 54), defScope (top 54), [], []⟩
def e_law_low : Ent := ⟨"_law_low", top 54, ["_law_number", "_law_parts", "_law_one", "_law_other"], ["_law_number", "_law_parts"], m_law_low⟩
def d_law_sum : He.DefD := ⟨("_law_sum", none), "_law_sum", "_law_sum", defArgs (top 55), defBody (top 55), defScope (top 55), [], []⟩
def e_law_sum : Ent := ⟨"_law_sum", top 55, ["_law_one", "_law_other", "_law_factor"], ["_law_one", "_law_other", "_law_factor"], m_law_sum⟩
def d_law_begin : He.DefD := ⟨("_law_begin", none), "_law_begin", "_law_begin", defArgs (top 56), defBody (top 56), defScope (top 56), [], []⟩
def e_law_begin : Ent := ⟨"_law_begin", top 56, ["_law_phases", "_law_index", "_law_level", "_law_clock", "_law_end", "_law_phase_here", "_law_way"], ["_law_phases", "_law_index", "_law_level", "_law_clock"], m_law_begin⟩
def d_law_led : He.DefD := ⟨("_law_led", none), "_law_led", "_law_led", defArgs (top 57), defBody (top 57), defScope (top 57), [], []⟩
def e_law_led : Ent := ⟨"_law_led", top 57, ["_law_phases", "_law_now", "_law_moment", "_law_phase_here", "_law_level", "_law_sign", "_law_gone"], ["_law_phases", "_law_now", "_law_moment"], m_law_led⟩
def d_law_at : He.DefD := ⟨("_law_at", none), "_law_at", "_law_at", defArgs (top 58), defBody (top 58), defScope (top 58), [], []⟩
def e_law_at : Ent := ⟨"_law_at", top 58, ["_law_envelope_here", "_law_row_here", "_law_moment", "_law_now", "_law_at_here", "_law_here"], ["_law_envelope_here", "_law_row_here", "_law_moment"], m_law_at⟩
def d_law : He.DefD := ⟨("law", none), "law", "law", defArgs (top 59), defBody (top 59), defScope (top 59), [], []⟩
def e_law : Ent := ⟨"law", top 59, ["_law_script", "_law_k", "_law_wave", "_law_third", "_law_source_here", "_law_turn", "_law_some", "_law_again", "_law_row_here", "_law_end", "_law_moment", "_law_now"], ["_law_script"], m_law⟩
theorem b_is_number : BindsE e_is_number := fun _ _ _ _ _ _ us hl => match us, hl with | [_, _, _], _ => rfl
theorem b_is_good_phase : BindsE e_is_good_phase := fun _ _ _ _ _ _ us hl => match us, hl with | [_, _], _ => rfl
theorem b_next_of : BindsE e_next_of := fun _ _ _ _ _ _ us hl => match us, hl with | [_], _ => rfl
theorem b_ring_at : BindsE e_ring_at := fun _ _ _ _ _ _ us hl => match us, hl with | [_, _], _ => rfl
theorem b_is_moving : BindsE e_is_moving := fun _ _ _ _ _ _ us hl => match us, hl with | [_, _], _ => rfl
theorem b_is_good : BindsE e_is_good := fun _ _ _ _ _ _ us hl => match us, hl with | [_], _ => rfl
theorem b_is_good_row : BindsE e_is_good_row := fun _ _ _ _ _ _ us hl => match us, hl with | [_], _ => rfl
theorem b_need_envelope : BindsE e_need_envelope := fun _ _ _ _ _ _ us hl => match us, hl with | [_], _ => rfl
theorem b_need_row : BindsE e_need_row := fun _ _ _ _ _ _ us hl => match us, hl with | [_], _ => rfl
theorem b_need_number : BindsE e_need_number := fun _ _ _ _ _ _ us hl => match us, hl with | [_, _], _ => rfl
theorem b_lowest : BindsE e_lowest := fun _ _ _ _ _ _ us hl => match us, hl with | [_, _], _ => rfl
theorem b_plus : BindsE e_plus := fun _ _ _ _ _ _ us hl => match us, hl with | [_, _], _ => rfl
theorem b_times : BindsE e_times := fun _ _ _ _ _ _ us hl => match us, hl with | [_, _], _ => rfl
theorem b_minus : BindsE e_minus := fun _ _ _ _ _ _ us hl => match us, hl with | [_, _], _ => rfl
theorem b_shared : BindsE e_shared := fun _ _ _ _ _ _ us hl => match us, hl with | [_, _], _ => rfl
theorem b_is_less : BindsE e_is_less := fun _ _ _ _ _ _ us hl => match us, hl with | [_, _], _ => rfl
theorem b_whole : BindsE e_whole := fun _ _ _ _ _ _ us hl => match us, hl with | [_], _ => rfl
theorem b_apart : BindsE e_apart := fun _ _ _ _ _ _ us hl => match us, hl with | [_, _], _ => rfl
theorem b_begun_phase : BindsE e_begun_phase := fun _ _ _ _ _ _ us hl => match us, hl with | [_, _, _, _], _ => rfl
theorem b_time_left : BindsE e_time_left := fun _ _ _ _ _ _ us hl => match us, hl with | [_, _], _ => rfl
theorem b_moved : BindsE e_moved := fun _ _ _ _ _ _ us hl => match us, hl with | [_, _, _], _ => rfl
theorem b_skipped : BindsE e_skipped := fun _ _ _ _ _ _ us hl => match us, hl with | [_, _, _], _ => rfl
theorem b_state_at : BindsE e_state_at := fun _ _ _ _ _ _ us hl => match us, hl with | [_, _, _], _ => rfl
theorem b_first_state : BindsE e_first_state := fun _ _ _ _ _ _ us hl => match us, hl with | [], _ => rfl
theorem b_state_in : BindsE e_state_in := fun _ _ _ _ _ _ us hl => match us, hl with | [_, _, _], _ => rfl
theorem b_need_three : BindsE e_need_three := fun _ _ _ _ _ _ us hl => match us, hl with | [_, _, _], _ => rfl
theorem b_level_at : BindsE e_level_at := fun _ _ _ _ _ _ us hl => match us, hl with | [_, _, _], _ => rfl
theorem b_phase_at : BindsE e_phase_at := fun _ _ _ _ _ _ us hl => match us, hl with | [_, _, _], _ => rfl
theorem b_law_source : BindsE e_law_source := fun _ _ _ _ _ _ us hl => match us, hl with | [_, _], _ => rfl
theorem b_law_draw : BindsE e_law_draw := fun _ _ _ _ _ _ us hl => match us, hl with | [_, _], _ => rfl
theorem b_law_of : BindsE e_law_of := fun _ _ _ _ _ _ us hl => match us, hl with | [_, _], _ => rfl
theorem b_law_phase : BindsE e_law_phase := fun _ _ _ _ _ _ us hl => match us, hl with | [_, _], _ => rfl
theorem b_law_ring : BindsE e_law_ring := fun _ _ _ _ _ _ us hl => match us, hl with | [_, _], _ => rfl
theorem b_law_is_moving : BindsE e_law_is_moving := fun _ _ _ _ _ _ us hl => match us, hl with | [_, _], _ => rfl
theorem b_law_is_good : BindsE e_law_is_good := fun _ _ _ _ _ _ us hl => match us, hl with | [_], _ => rfl
theorem b_law_known : BindsE e_law_known := fun _ _ _ _ _ _ us hl => match us, hl with | [_], _ => rfl
theorem b_law_bent : BindsE e_law_bent := fun _ _ _ _ _ _ us hl => match us, hl with | [_, _], _ => rfl
theorem b_law_any : BindsE e_law_any := fun _ _ _ _ _ _ us hl => match us, hl with | [_], _ => rfl
theorem b_law_envelope : BindsE e_law_envelope := fun _ _ _ _ _ _ us hl => match us, hl with | [_], _ => rfl
theorem b_law_row : BindsE e_law_row := fun _ _ _ _ _ _ us hl => match us, hl with | [_, _, _], _ => rfl
theorem b_law_low : BindsE e_law_low := fun _ _ _ _ _ _ us hl => match us, hl with | [_, _], _ => rfl
theorem b_law_sum : BindsE e_law_sum := fun _ _ _ _ _ _ us hl => match us, hl with | [_, _, _], _ => rfl
theorem b_law_begin : BindsE e_law_begin := fun _ _ _ _ _ _ us hl => match us, hl with | [_, _, _, _], _ => rfl
theorem b_law_led : BindsE e_law_led := fun _ _ _ _ _ _ us hl => match us, hl with | [_, _, _], _ => rfl
theorem b_law_at : BindsE e_law_at := fun _ _ _ _ _ _ us hl => match us, hl with | [_, _, _], _ => rfl
theorem b_law : BindsE e_law := fun _ _ _ _ _ _ us hl => match us, hl with | [_], _ => rfl
def fn : List He.DefD := [d_is_number, d_is_good_phase, d_next_of, d_ring_at, d_is_moving, d_is_good, d_is_good_row, d_need_envelope, d_need_row, d_need_number, d_lowest, d_plus, d_times, d_minus, d_shared, d_is_less, d_whole, d_apart, d_begun_phase, d_time_left, d_moved, d_skipped, d_state_at, d_first_state, d_state_in, d_need_three, d_level_at, d_phase_at, d_law_source, d_law_draw, d_law_of, d_law_phase, d_law_ring, d_law_is_moving, d_law_is_good, d_law_known, d_law_bent, d_law_any, d_law_envelope, d_law_row, d_law_low, d_law_sum, d_law_begin, d_law_led, d_law_at, d_law]
def tab : List Ent := [e_is_number, e_is_good_phase, e_next_of, e_ring_at, e_is_moving, e_is_good, e_is_good_row, e_need_envelope, e_need_row, e_need_number, e_lowest, e_plus, e_times, e_minus, e_shared, e_is_less, e_whole, e_apart, e_begun_phase, e_time_left, e_moved, e_skipped, e_state_at, e_first_state, e_state_in, e_need_three, e_level_at, e_phase_at, e_law_source, e_law_draw, e_law_of, e_law_phase, e_law_ring, e_law_is_moving, e_law_is_good, e_law_known, e_law_bent, e_law_any, e_law_envelope, e_law_row, e_law_low, e_law_sum, e_law_begin, e_law_led, e_law_at, e_law]
def gcs : List (Str × D) := [("TOP", .int 12), ("MOST_RATE", .int 6), ("MOST_SPAN", .int 8), ("MOST", .int 6), ("MOST_MOMENT", .int 1000000000000000000000000000000)]
def fa : List He.Fa := [.free "len", .free "abs", .free "min", .free "max", .free "any", .free "all", .free "int", .free "str", .free "list", .free "tuple", .free "isinstance", .free "sorted", .free "set", .free "dict", .free "range", .free "zip", .free "enumerate", .free "bool", .glo "is_number", .glo "is_good_phase", .glo "next_of", .glo "ring_at", .glo "is_moving", .glo "is_good", .glo "is_good_row", .glo "need_envelope", .glo "need_row", .glo "need_number", .glo "lowest", .glo "plus", .glo "times", .glo "minus", .glo "shared", .glo "is_less", .glo "whole", .glo "apart", .glo "begun_phase", .glo "time_left", .glo "moved", .glo "skipped", .glo "state_at", .glo "first_state", .glo "state_in", .glo "need_three", .glo "level_at", .glo "phase_at", .glo "_law_source", .glo "_law_draw", .glo "_law_of", .glo "_law_phase", .glo "_law_ring", .glo "_law_is_moving", .glo "_law_is_good", .glo "_law_known", .glo "_law_bent", .glo "_law_any", .glo "_law_envelope", .glo "_law_row", .glo "_law_low", .glo "_law_sum", .glo "_law_begin", .glo "_law_led", .glo "_law_at", .glo "law", .int "TOP" 12, .int "MOST_RATE" 6, .int "MOST_SPAN" 8, .int "MOST" 6, .int "MOST_MOMENT" 1000000000000000000000000000000]
def ln0 : List PySem.Str := ["is_number", "is_good_phase", "next_of", "ring_at", "is_moving", "is_good", "is_good_row", "need_envelope", "need_row", "need_number", "lowest", "plus", "times", "minus", "shared", "is_less", "whole", "apart", "begun_phase", "time_left", "moved", "skipped", "state_at", "first_state", "state_in", "need_three", "level_at", "phase_at", "_law_source", "_law_draw"]
def ln1 : List PySem.Str := ["_law_of", "_law_phase", "_law_ring", "_law_is_moving", "_law_is_good", "_law_known", "_law_bent", "_law_any", "_law_envelope", "_law_row", "_law_low", "_law_sum", "_law_begin", "_law_led", "_law_at", "SoundError", "InvalidEnvelope", "InvalidRow", "InvalidNumber", "TOP", "MOST_RATE", "MOST_SPAN", "MOST", "MOST_MOMENT"]
def loose : List PySem.Str := ln0 ++ ln1
abbrev R : PySem.W.OpenRow := PySem.W.OpenLaw.row PySem.Challenge.rw_keyloud_k02_levels_at_moments
abbrev hk : PySem.W.Hook := He.hookD 4 fa fn
def ob (s : PySem.W.SharedT) : He.AlD := He.obsDG 4 fa fn (HandSHeadRun.getT s)
theorem ob_eq (s : PySem.W.SharedT) : ob s = hk.obs s.abs := He.obsDG_eq (HandSHeadRun.getT_eq s)
theorem ck : tab.all (entB tab gcs) = true := by decide +kernel
theorem fns {P : Program} {w : World} {K : PySem.W.Frag} {h : Heap} {mg : Str → Option Value} (X : K.In h) (Gm : h.Ns mainGlobals mg) (c : He.SaysD fa fn K) (k : Nat) : ∃ fd : FuncData, (∀ (s : Shared) (us : List Value), us.length = 1 → BindsTo s fd ⟨us, []⟩ (e_law.ps.zip us)) ∧ ∀ base : Heap, FnOk P w K mg base CX0 k (He.fAd K ("law", none)) fd e_law.ps (spK P w K (callK (GOf gcs) (TOf tab) k) 1 i_law) := by
  have hd : ∀ (j : Nat) (e : Ent), tab[j]? = some e → ∃ d : He.DefD, fn[j]? = some d ∧ d.at_ = (e.name, none) ∧ d.name = e.name ∧ d.qual = e.name ∧ d.params = defArgs e.st ∧ d.body = defBody e.st ∧ d.scope = defScope e.st ∧ d.dfl = [] ∧ d.kwd = [] ∧ fa[18 + j]? = some (.glo e.name) ∧ BindsE e := by
    intro j e he
    match j, he with
    | 0, he => cases he; exact ⟨d_is_number, rfl, rfl, rfl, rfl, rfl, rfl, rfl, rfl, rfl, rfl, b_is_number⟩
    | 1, he => cases he; exact ⟨d_is_good_phase, rfl, rfl, rfl, rfl, rfl, rfl, rfl, rfl, rfl, rfl, b_is_good_phase⟩
    | 2, he => cases he; exact ⟨d_next_of, rfl, rfl, rfl, rfl, rfl, rfl, rfl, rfl, rfl, rfl, b_next_of⟩
    | 3, he => cases he; exact ⟨d_ring_at, rfl, rfl, rfl, rfl, rfl, rfl, rfl, rfl, rfl, rfl, b_ring_at⟩
    | 4, he => cases he; exact ⟨d_is_moving, rfl, rfl, rfl, rfl, rfl, rfl, rfl, rfl, rfl, rfl, b_is_moving⟩
    | 5, he => cases he; exact ⟨d_is_good, rfl, rfl, rfl, rfl, rfl, rfl, rfl, rfl, rfl, rfl, b_is_good⟩
    | 6, he => cases he; exact ⟨d_is_good_row, rfl, rfl, rfl, rfl, rfl, rfl, rfl, rfl, rfl, rfl, b_is_good_row⟩
    | 7, he => cases he; exact ⟨d_need_envelope, rfl, rfl, rfl, rfl, rfl, rfl, rfl, rfl, rfl, rfl, b_need_envelope⟩
    | 8, he => cases he; exact ⟨d_need_row, rfl, rfl, rfl, rfl, rfl, rfl, rfl, rfl, rfl, rfl, b_need_row⟩
    | 9, he => cases he; exact ⟨d_need_number, rfl, rfl, rfl, rfl, rfl, rfl, rfl, rfl, rfl, rfl, b_need_number⟩
    | 10, he => cases he; exact ⟨d_lowest, rfl, rfl, rfl, rfl, rfl, rfl, rfl, rfl, rfl, rfl, b_lowest⟩
    | 11, he => cases he; exact ⟨d_plus, rfl, rfl, rfl, rfl, rfl, rfl, rfl, rfl, rfl, rfl, b_plus⟩
    | 12, he => cases he; exact ⟨d_times, rfl, rfl, rfl, rfl, rfl, rfl, rfl, rfl, rfl, rfl, b_times⟩
    | 13, he => cases he; exact ⟨d_minus, rfl, rfl, rfl, rfl, rfl, rfl, rfl, rfl, rfl, rfl, b_minus⟩
    | 14, he => cases he; exact ⟨d_shared, rfl, rfl, rfl, rfl, rfl, rfl, rfl, rfl, rfl, rfl, b_shared⟩
    | 15, he => cases he; exact ⟨d_is_less, rfl, rfl, rfl, rfl, rfl, rfl, rfl, rfl, rfl, rfl, b_is_less⟩
    | 16, he => cases he; exact ⟨d_whole, rfl, rfl, rfl, rfl, rfl, rfl, rfl, rfl, rfl, rfl, b_whole⟩
    | 17, he => cases he; exact ⟨d_apart, rfl, rfl, rfl, rfl, rfl, rfl, rfl, rfl, rfl, rfl, b_apart⟩
    | 18, he => cases he; exact ⟨d_begun_phase, rfl, rfl, rfl, rfl, rfl, rfl, rfl, rfl, rfl, rfl, b_begun_phase⟩
    | 19, he => cases he; exact ⟨d_time_left, rfl, rfl, rfl, rfl, rfl, rfl, rfl, rfl, rfl, rfl, b_time_left⟩
    | 20, he => cases he; exact ⟨d_moved, rfl, rfl, rfl, rfl, rfl, rfl, rfl, rfl, rfl, rfl, b_moved⟩
    | 21, he => cases he; exact ⟨d_skipped, rfl, rfl, rfl, rfl, rfl, rfl, rfl, rfl, rfl, rfl, b_skipped⟩
    | 22, he => cases he; exact ⟨d_state_at, rfl, rfl, rfl, rfl, rfl, rfl, rfl, rfl, rfl, rfl, b_state_at⟩
    | 23, he => cases he; exact ⟨d_first_state, rfl, rfl, rfl, rfl, rfl, rfl, rfl, rfl, rfl, rfl, b_first_state⟩
    | 24, he => cases he; exact ⟨d_state_in, rfl, rfl, rfl, rfl, rfl, rfl, rfl, rfl, rfl, rfl, b_state_in⟩
    | 25, he => cases he; exact ⟨d_need_three, rfl, rfl, rfl, rfl, rfl, rfl, rfl, rfl, rfl, rfl, b_need_three⟩
    | 26, he => cases he; exact ⟨d_level_at, rfl, rfl, rfl, rfl, rfl, rfl, rfl, rfl, rfl, rfl, b_level_at⟩
    | 27, he => cases he; exact ⟨d_phase_at, rfl, rfl, rfl, rfl, rfl, rfl, rfl, rfl, rfl, rfl, b_phase_at⟩
    | 28, he => cases he; exact ⟨d_law_source, rfl, rfl, rfl, rfl, rfl, rfl, rfl, rfl, rfl, rfl, b_law_source⟩
    | 29, he => cases he; exact ⟨d_law_draw, rfl, rfl, rfl, rfl, rfl, rfl, rfl, rfl, rfl, rfl, b_law_draw⟩
    | 30, he => cases he; exact ⟨d_law_of, rfl, rfl, rfl, rfl, rfl, rfl, rfl, rfl, rfl, rfl, b_law_of⟩
    | 31, he => cases he; exact ⟨d_law_phase, rfl, rfl, rfl, rfl, rfl, rfl, rfl, rfl, rfl, rfl, b_law_phase⟩
    | 32, he => cases he; exact ⟨d_law_ring, rfl, rfl, rfl, rfl, rfl, rfl, rfl, rfl, rfl, rfl, b_law_ring⟩
    | 33, he => cases he; exact ⟨d_law_is_moving, rfl, rfl, rfl, rfl, rfl, rfl, rfl, rfl, rfl, rfl, b_law_is_moving⟩
    | 34, he => cases he; exact ⟨d_law_is_good, rfl, rfl, rfl, rfl, rfl, rfl, rfl, rfl, rfl, rfl, b_law_is_good⟩
    | 35, he => cases he; exact ⟨d_law_known, rfl, rfl, rfl, rfl, rfl, rfl, rfl, rfl, rfl, rfl, b_law_known⟩
    | 36, he => cases he; exact ⟨d_law_bent, rfl, rfl, rfl, rfl, rfl, rfl, rfl, rfl, rfl, rfl, b_law_bent⟩
    | 37, he => cases he; exact ⟨d_law_any, rfl, rfl, rfl, rfl, rfl, rfl, rfl, rfl, rfl, rfl, b_law_any⟩
    | 38, he => cases he; exact ⟨d_law_envelope, rfl, rfl, rfl, rfl, rfl, rfl, rfl, rfl, rfl, rfl, b_law_envelope⟩
    | 39, he => cases he; exact ⟨d_law_row, rfl, rfl, rfl, rfl, rfl, rfl, rfl, rfl, rfl, rfl, b_law_row⟩
    | 40, he => cases he; exact ⟨d_law_low, rfl, rfl, rfl, rfl, rfl, rfl, rfl, rfl, rfl, rfl, b_law_low⟩
    | 41, he => cases he; exact ⟨d_law_sum, rfl, rfl, rfl, rfl, rfl, rfl, rfl, rfl, rfl, rfl, b_law_sum⟩
    | 42, he => cases he; exact ⟨d_law_begin, rfl, rfl, rfl, rfl, rfl, rfl, rfl, rfl, rfl, rfl, b_law_begin⟩
    | 43, he => cases he; exact ⟨d_law_led, rfl, rfl, rfl, rfl, rfl, rfl, rfl, rfl, rfl, rfl, b_law_led⟩
    | 44, he => cases he; exact ⟨d_law_at, rfl, rfl, rfl, rfl, rfl, rfl, rfl, rfl, rfl, rfl, b_law_at⟩
    | 45, he => cases he; exact ⟨d_law, rfl, rfl, rfl, rfl, rfl, rfl, rfl, rfl, rfl, rfl, b_law⟩
    | n + 46, he => simp [tab] at he
  have hfree : ∀ b ∈ blts, mg b = none := by
    intro b hb
    simp only [blts, List.mem_cons, List.not_mem_nil, or_false] at hb
    rcases hb with rfl | rfl | rfl | rfl | rfl | rfl | rfl | rfl | rfl | rfl | rfl | rfl | rfl | rfl | rfl | rfl | rfl | rfl
    · exact He.free_ok X Gm (c.fact 0 (f := .free "len") rfl)
    · exact He.free_ok X Gm (c.fact 1 (f := .free "abs") rfl)
    · exact He.free_ok X Gm (c.fact 2 (f := .free "min") rfl)
    · exact He.free_ok X Gm (c.fact 3 (f := .free "max") rfl)
    · exact He.free_ok X Gm (c.fact 4 (f := .free "any") rfl)
    · exact He.free_ok X Gm (c.fact 5 (f := .free "all") rfl)
    · exact He.free_ok X Gm (c.fact 6 (f := .free "int") rfl)
    · exact He.free_ok X Gm (c.fact 7 (f := .free "str") rfl)
    · exact He.free_ok X Gm (c.fact 8 (f := .free "list") rfl)
    · exact He.free_ok X Gm (c.fact 9 (f := .free "tuple") rfl)
    · exact He.free_ok X Gm (c.fact 10 (f := .free "isinstance") rfl)
    · exact He.free_ok X Gm (c.fact 11 (f := .free "sorted") rfl)
    · exact He.free_ok X Gm (c.fact 12 (f := .free "set") rfl)
    · exact He.free_ok X Gm (c.fact 13 (f := .free "dict") rfl)
    · exact He.free_ok X Gm (c.fact 14 (f := .free "range") rfl)
    · exact He.free_ok X Gm (c.fact 15 (f := .free "zip") rfl)
    · exact He.free_ok X Gm (c.fact 16 (f := .free "enumerate") rfl)
    · exact He.free_ok X Gm (c.fact 17 (f := .free "bool") rfl)
  have hgs : ∀ (j : Nat) (x : Str) (d : D), gcs[j]? = some (x, d) → ∃ u v, mg x = some u ∧ RelV v u ∧ ∀ (P : Program) (w : World) (H : Hp) (L : Addr → Prop) (m : List Addr), Rep P w K H L m d v := by
    intro j x d he
    match j, he with
    | 0, he => cases he; obtain ⟨t, ht⟩ := He.int_ok X Gm (c.fact 64 (f := .int "TOP" 12) rfl); exact ⟨_, .int 12, ht, ⟨t, rfl⟩, fun _ _ _ _ _ => rfl⟩
    | 1, he => cases he; obtain ⟨t, ht⟩ := He.int_ok X Gm (c.fact 65 (f := .int "MOST_RATE" 6) rfl); exact ⟨_, .int 6, ht, ⟨t, rfl⟩, fun _ _ _ _ _ => rfl⟩
    | 2, he => cases he; obtain ⟨t, ht⟩ := He.int_ok X Gm (c.fact 66 (f := .int "MOST_SPAN" 8) rfl); exact ⟨_, .int 8, ht, ⟨t, rfl⟩, fun _ _ _ _ _ => rfl⟩
    | 3, he => cases he; obtain ⟨t, ht⟩ := He.int_ok X Gm (c.fact 67 (f := .int "MOST" 6) rfl); exact ⟨_, .int 6, ht, ⟨t, rfl⟩, fun _ _ _ _ _ => rfl⟩
    | 4, he => cases he; obtain ⟨t, ht⟩ := He.int_ok X Gm (c.fact 68 (f := .int "MOST_MOMENT" 1000000000000000000000000000000) rfl); exact ⟨_, .int 1000000000000000000000000000000, ht, ⟨t, rfl⟩, fun _ _ _ _ _ => rfl⟩
    | n + 5, he => simp [gcs] at he
  have hF : ∀ (j : Nat) (e : Ent), tab[j]? = some e → ∃ fd, FunD K e.name e.name (defArgs e.st) (defBody e.st) (defScope e.st) [] [] (He.fAd K (e.name, none)) fd := fun j e he => by
    obtain ⟨d, g0, g1, g2, g3, g4, g5, g6, g7, g8, g9, g10⟩ := hd j e he
    obtain ⟨fd, F⟩ := c.def_ j g0
    have e1 : d.dvs K = [] := by unfold He.DefD.dvs; rw [g7]; rfl
    have e2 : d.kws K = [] := by unfold He.DefD.kws; rw [g8]; rfl
    rw [e1, e2, g1, g2, g3, g4, g5, g6] at F
    exact ⟨fd, F⟩
  obtain ⟨fd, F⟩ := hF i_law e_law rfl
  have al := fun base => all_fns (P := P) (w := w) (mg := mg) (base := base) ck hF (fun j e he => by
      obtain ⟨d, g0, g1, g2, g3, g4, g5, g6, g7, g8, g9, g10⟩ := hd j e he
      exact He.glo_ok X Gm (c.fact (18 + j) g9)) (fun j e he => by
      obtain ⟨d, g0, g1, g2, g3, g4, g5, g6, g7, g8, g9, g10⟩ := hd j e he
      exact g10) hfree hgs k i_law e_law rfl fd F
  exact ⟨fd, (al h).2.1, fun base => (al base).2.2.2⟩
theorem run (w : World) : HandSHeadRun.RunEq R (PySem.W.view R.prog [59]) hk ob 4000 loose w := by
  intro os
  kernel_rfl
theorem GT_eq : GOf gcs = G ∧ TOf tab = T := by
  refine ⟨?_, ?_⟩
  · funext j
    show (gcs[j]?).map (·.2) = cons[j]?
    rw [← List.getElem?_map]; rfl
  · funext j
    show (tab[j]?).map (·.d) = mdefs[j]?
    rw [← List.getElem?_map]; rfl
end K02
open PySem PySem.W PySem.Calls PyProof.Rows
/-- the law, from what it computes -/
theorem K02.holds_of (hlaw : ∀ ns : List Int, ns.length ≤ 63 → ∃ S', KL.callK K02.G K02.T 40 K02.i_law [.scr ns] [] = some (.ok (.bl true) S')) : PySem.Challenge.rw_keyloud_k02_levels_at_moments.Holds := by
  w_on; o_law
  refine HandSHeadRun.head_any (r := OpenLaw.row PySem.Challenge.rw_keyloud_k02_levels_at_moments) (q := view (OpenLaw.row PySem.Challenge.rw_keyloud_k02_levels_at_moments).prog [59]) (H := K02.hk) (ob := K02.ob) (M := 4000) (loose := K02.loose) (d := HandSHeadRun.topDef (OpenLaw.row PySem.Challenge.rw_keyloud_k02_levels_at_moments).prog 59) (kwd := []) K02.ob_eq
    (by kernel_rfl) (fun s => by kernel_rfl) K02.run (by kernel_rfl) (by kernel_rfl) (by kernel_rfl) (by rfl) (by first | assumption | decide +kernel) (by decide +kernel) ⟨rfl, rfl, rfl, rfl, rfl, by decide +kernel⟩ ?hw ?hc
  case hw => w_witness2
  case hc =>
    refine L2.walk_ofE (l := PySem.Challenge.rw_keyloud_k02_levels_at_moments) (n := 63) (k := 40) (x := "_law_script") (CX := L2.CX0) rfl (by decide) (by kernel_rfl) ⟨rfl, by decide, by decide⟩ ?F (fun _ _ _ _ z => z)
    intro w mg fa h Y Gm hmg0
    obtain ⟨K, KX, c⟩ := Y
    have hmg : mg ("law" : PySem.Str) = some (.ref fa) := by
      have e : (HandSHeadRun.topDef (OpenLaw.row PySem.Challenge.rw_keyloud_k02_levels_at_moments).prog 59).name = ("law" : PySem.Str) := by kernel_rfl
      rw [← e]
      exact hmg0
    have e9 := hmg.symm.trans (He.glo_ok KX Gm (c.fact 63 (f := .glo "law") rfl))
    cases e9
    obtain ⟨fd, hb, hF⟩ := K02.fns (P := PySem.Challenge.rw_keyloud_k02_levels_at_moments.prog) (w := w) KX Gm c 40
    rw [K02.GT_eq.1, K02.GT_eq.2] at hF
    exact ⟨K, fd, _, KX, fun s v => hb s [v] rfl, fun H a ns hl _ hS => KL.law_sp hS (hlaw ns hl), fun base _ _ => hF base⟩
end
theorem PySem.Challenge.cw_keyloud_k02_levels_at_moments_holds : PySem.Challenge.rw_keyloud_k02_levels_at_moments.Holds := by
  exact K02.holds_of fun ns _ => K02.law_ok ns
